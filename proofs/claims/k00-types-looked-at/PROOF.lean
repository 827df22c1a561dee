import PyProof.Rows.All
import Wide.All
import OpenK.AllK
import Wide.FinOn
import HandS.ForMost
import HandS.ForExc
import HandS.Lambda
import HandS.ExcInit
import HandS.TupAny
import HandS.TupMul
import HandS.TupLe
import HandS.Wide
import HandS.Deep
import HandS.Style
import PyProof.StrBlock2
import PyProof.Rows.RuleB_pow
import HandS.Flow
import HandS.IsInst
import HandS.ExcField
import HandS.ClsMeth
import KE.KExcInit
import HandS.ExcValue
import HandS.ExcIs
import HandS.Comp
import KE.KIsAll
import KE.KTryMore
import HandS.MakeKwOnly
import KE.KExcStr
import HandS.RaiseMore
import HandS.Ends
import HandS.Words
import HandS.MakeKw
import HandS.TryMany
import HandS.Star
import HandS.Text
import KE.KLam
import HandS.EndTab
import PyProof.StrBlock
import HandS.Zip
import HandS.Evl
import HandS.Strs
import HandS.Iter
import KE.GoesEnum
import HandS.List
import PyProof.ReprRoads
import KE.KDflt
import PyProof.ReprBulk
import KE.LtSeq
import KE.LtData
import PyProof.Rows.StrMeet
import PyProof.CallFns
import PyProof.StrLawsIn
import PyProof.ReprText
import PySem.Challenge.RW_sameinworlds_k00_types_looked_at
set_option Elab.async false
set_option linter.all false
set_option maxRecDepth 100000
set_option maxHeartbeats 4000000
/-! TL1: programs over immutable data as plain functions: data, the relation to the heap, the judgement forms. -/
namespace TL
open PySem PySem.Spec PyProof.Rows L2

/-- data: what a tuple, a list that nobody changes any more, a text .. is -/
inductive D where
  | non | bl (b : Bool) | int (i : Int) | str (x : Str)
  | tup (xs : List D) | lst (xs : List D)
  | cls (i : Nat) | fn (i : Nat) (cap : List D) | exc (c : Nat) (d : D) | err (c : Nat) (d : D) | lam (cap : List D)
/-- what changes: a list, a dict of int and text keys -/
inductive MO where
  | lst (ds : List D) | dct (kvs : List (Key × D))
/-- what a slot of a frame holds: data; an object of its own; the object that came as the k-th argument -/
inductive SD where
  | val (d : D) | own (m : MO) | io (k : Nat) (m : MO)
abbrev SS := List (Option SD)
/-- an exception: its class's number, its field -/
structure Ex where
  c : Nat
  d : D
inductive O (α : Type) where
  | ok (a : α) (σ : SS) | ex (x : Ex) (σ : SS) | bad
def O.bind {α β : Type} (o : O α) (f : α → SS → O β) : O β := match o with
  | .ok a σ => f a σ
  | .ex x σ => .ex x σ
  | .bad => .bad
def ofOpt {α : Type} (o : Option α) : SS → O α := fun σ => match o with
  | some a => .ok a σ
  | none => .bad
inductive OS where
  | nx (σ : SS) | rt (d : D) (σ : SS) | rtm (m : MO) (σ : SS) | bk (σ : SS) | ct (σ : SS) | ex (x : Ex) (σ : SS) | bad

/-- the program's constants: classes and their field, closures -/
structure Cn where
  K : PySem.W.Frag
  ca : Nat → Addr
  cf : Nat → Str
  cm : Nat → Str
  fa : Nat → Addr
  T : List (Addr × Str)
  la : Addr := 0
  lc : Addr := 0
  lq : Str := ""
  lv : List V := []
/-- an exception object of the class cls, its dict at dd -/
def exH (cls : Value) (dd a : Addr) : HO := .ext fun h => ∃ (oe : Obj) (vs : Array Value), h.get? a = some oe ∧ Zc cls (some dd) oe ∧ oe.data = .fields vs
/-- an exception object as its __init__ left it: the args at t1 -/
def exoA (a c t1 : Addr) (od : Option Addr) : HO := .ext fun h => h.get? a = some ({ cls := .ref c, dict := od, data := .fields #[.ref t1, .none, .none, .none, .bool false, .none] } : Obj)
def Cn.eo (C : Cn) (c : Nat) (a dd : Addr) : HO := exH (.ref (C.ca c)) dd a

def fixd : HO → Bool
  | .lst _ | .dK _ | .dT _ | .set _ _ | .ins _ _ _ | .tbl _ => false
  | _ => true
def notTbl : HO → Bool
  | .tbl _ => false
  | _ => true
/-- what stands is kept, and the tables of code objects are in order -/
def Fx (T : List (Addr × Str)) (H H' : Hp) : Prop := (∀ a o, H a = some o → fixd o = true → H' a = some o) ∧ (LamX.Tabs T H → LamX.Tabs T H')
theorem Fx.refl {T : List (Addr × Str)} (H : Hp) : Fx T H H := ⟨fun _ _ h _ => h, fun h => h⟩
theorem Fx.trans {T : List (Addr × Str)} {H H1 H2 : Hp} (f : Fx T H H1) (g : Fx T H1 H2) : Fx T H H2 := ⟨fun a o h d => g.1 a o (f.1 a o h d) d, fun h => g.2 (f.2 h)⟩
theorem Fx.of_same {T : List (Addr × Str)} {H H' : Hp} (s : Same H H') : Fx T H H' := ⟨fun a o h _ => s a o h, fun h => LamX.Tabs.ext h s⟩
theorem same_new {H : Hp} {p : Addr} {o : HO} (h : H p = none) : Same H (upd H p o) := fun b u e => by rw [upd_ne (ne_of_none e h)]; exact e
theorem Fx.upd {T : List (Addr × Str)} {H : Hp} {a : Addr} {o o' : HO} (h : H a = some o) (d : fixd o = false) (n : notTbl o = true := by rfl) : Fx T H (L2.upd H a o') := by
  have k : ∀ b u, H b = some u → (fixd u = true ∨ notTbl u = false) → L2.upd H a o' b = some u := fun b u e f => by
    rw [upd_ne fun z => by
      rw [z, h] at e; cases e
      rcases f with f | f
      · rw [d] at f; cases f
      · rw [n] at f; cases f]
    exact e
  refine ⟨fun b u e f => k b u e (.inl f), fun t p hp => ?_⟩
  obtain ⟨ps, h1, h2, h3⟩ := t p hp
  refine ⟨ps, k _ _ h1 (.inr rfl), h2, fun pos cv hc => ?_⟩
  obtain ⟨c, e1, e2⟩ := h3 pos cv hc
  exact ⟨c, e1, k _ _ e2 (.inl rfl)⟩

/-- a list that stands: locked, or written in the text -/
def FxL (K : PySem.W.Frag) (H : Hp) (a : Addr) (xs : List V) : Prop :=
  (∃ o, H a = some (.frz o (.lst xs))) ∨ ((∀ u, H a ≠ some u) ∧ SqL K H a xs)
/-- a tuple that stands -/
def FxT (K : PySem.W.Frag) (H : Hp) (a : Addr) (xs : List V) : Prop := SqT K H a xs

mutual
def Rp (C : Cn) (H : Hp) : D → V → Prop
  | .non, v => v = .non
  | .bl b, v => v = .bl b
  | .int i, v => v = .int i
  | .str x, v => v = .str x
  | .tup ds, v => ∃ a vs, v = .ref a ∧ SqT C.K H a vs ∧ RpL C H ds vs
  | .lst ds, v => ∃ a vs, v = .ref a ∧ ((∃ o, H a = some (.frz o (.lst vs))) ∨ ∃ (o : Obj) (its : Array Value) (n : Nat), C.K.lookup a = some o ∧ o.cls = .type "list" ∧ o.dict = none ∧ o.data = .seq its n ∧ its.size ≤ sizeLine ∧ Vals vs its.toList) ∧ RpL C H ds vs
  | .cls i, v => v = .ref (C.ca i)
  | .fn i cap, v => cap = [] ∧ v = .ref (C.fa i)
  | .exc c d, v => ∃ a dd x fs, v = .ref a ∧ H a = some (C.eo c a dd) ∧ H dd = some (.xd fs) ∧ fs.lookup (C.cf c) = some x ∧ Rp C H d x
  | .err c d, v => ∃ a dd t1 x fs, v = .ref a ∧ H a = some (exoA a (C.ca c) t1 (some dd)) ∧ H dd = some (exd dd fs) ∧ H t1 = some (.tup [.str (C.cm c)]) ∧ fs.lookup (C.cf c) = some x ∧ Rp C H d x
  | .lam cap, v => v = .ref C.la ∧ H C.lc = some (LamX.CodeO C.lc C.lq) ∧ RpL C H cap C.lv
def RpL (C : Cn) (H : Hp) : List D → List V → Prop
  | [], vs => vs = []
  | d :: ds, vs => ∃ v r, vs = v :: r ∧ Rp C H d v ∧ RpL C H ds r
end

theorem SqT.fx {T : List (Addr × Str)} {K : PySem.W.Frag} {H H' : Hp} {a : Addr} {xs : List V} (f : Fx T H H') (h : SqT K H a xs) : SqT K H' a xs := by
  rcases h with (h | ⟨o, h⟩) | h
  · exact .inl (.inl (f.1 _ _ h rfl))
  · exact .inl (.inr ⟨o, f.1 _ _ h rfl⟩)
  · exact .inr h
mutual
theorem Rp.fx {C : Cn} {H H' : Hp} (f : Fx C.T H H') : ∀ {d : D} {v : V}, Rp C H d v → Rp C H' d v
  | .non, _, h | .bl _, _, h | .int _, _, h | .str _, _, h | .cls _, _, h => by simpa only [Rp] using h
  | .tup ds, v, h => by
    simp only [Rp] at h ⊢
    obtain ⟨a, vs, e, s, r⟩ := h
    exact ⟨a, vs, e, TL.SqT.fx f s, RpL.fx f r⟩
  | .lst ds, v, h => by
    simp only [Rp] at h ⊢
    obtain ⟨a, vs, e, s, r⟩ := h
    refine ⟨a, vs, e, ?_, RpL.fx f r⟩
    rcases s with ⟨o, s⟩ | s
    · exact .inl ⟨o, f.1 _ _ s rfl⟩
    · exact .inr s
  | .fn i cap, v, h => by
    simp only [Rp] at h ⊢
    exact h
  | .exc c d, v, h => by
    simp only [Rp] at h ⊢
    obtain ⟨a, dd, x, fs, e, s, q, l, r⟩ := h
    exact ⟨a, dd, x, fs, e, f.1 _ _ s rfl, f.1 _ _ q rfl, l, Rp.fx f r⟩
  | .err c d, v, h => by
    simp only [Rp] at h ⊢
    obtain ⟨a, dd, t1, x, fs, e, s, q, z, l, r⟩ := h
    exact ⟨a, dd, t1, x, fs, e, f.1 _ _ s rfl, f.1 _ _ q rfl, f.1 _ _ z rfl, l, Rp.fx f r⟩
  | .lam cap, v, h => by
    simp only [Rp] at h ⊢
    obtain ⟨e, s, r⟩ := h
    exact ⟨e, f.1 _ _ s rfl, RpL.fx f r⟩
theorem RpL.fx {C : Cn} {H H' : Hp} (f : Fx C.T H H') : ∀ {ds : List D} {vs : List V}, RpL C H ds vs → RpL C H' ds vs
  | [], _, h => by simpa only [RpL] using h
  | d :: ds, _, h => by
    simp only [RpL] at h ⊢
    obtain ⟨v, r, e, h1, h2⟩ := h
    exact ⟨v, r, e, Rp.fx f h1, RpL.fx f h2⟩
end
theorem RpL.nil {C : Cn} {H : Hp} : RpL C H [] [] := by simp only [RpL]
theorem RpL.cons {C : Cn} {H : Hp} {d : D} {ds : List D} {v : V} {vs : List V} (h : Rp C H d v) (t : RpL C H ds vs) : RpL C H (d :: ds) (v :: vs) := by
  simp only [RpL]; exact ⟨v, vs, rfl, h, t⟩
theorem RpL.length {C : Cn} {H : Hp} : ∀ {ds : List D} {vs : List V}, RpL C H ds vs → vs.length = ds.length
  | [], _, h => by simp only [RpL] at h; subst h; rfl
  | _ :: _, _, h => by
    simp only [RpL] at h
    obtain ⟨v, r, e, _, h2⟩ := h
    subst e
    simp [RpL.length h2]
theorem RpL.get {C : Cn} {H : Hp} : ∀ {ds : List D} {vs : List V} {i : Nat} {d : D}, RpL C H ds vs → ds[i]? = some d → ∃ v, vs[i]? = some v ∧ Rp C H d v
  | [], _, _, _, _, e => by simp at e
  | _ :: _, _, 0, _, h, e => by
    simp only [RpL] at h
    obtain ⟨v, r, e1, h1, _⟩ := h
    simp at e
    subst e; subst e1
    exact ⟨v, rfl, h1⟩
  | _ :: _, _, i + 1, _, h, e => by
    simp only [RpL] at h
    obtain ⟨v, r, e1, _, h2⟩ := h
    subst e1
    obtain ⟨w, q1, q2⟩ := RpL.get (i := i) h2 (by simpa using e)
    exact ⟨w, by simpa using q1, q2⟩
theorem RpL.append {C : Cn} {H : Hp} : ∀ {ds es : List D} {vs ws : List V}, RpL C H ds vs → RpL C H es ws → RpL C H (ds ++ es) (vs ++ ws)
  | [], _, _, _, h, t => by simp only [RpL] at h; subst h; exact t
  | _ :: _, _, _, _, h, t => by
    simp only [RpL] at h
    obtain ⟨v, r, e, h1, h2⟩ := h
    subst e
    exact .cons h1 (RpL.append h2 t)
theorem RpL.drop {C : Cn} {H : Hp} : ∀ {ds : List D} {vs : List V} (n : Nat), RpL C H ds vs → RpL C H (ds.drop n) (vs.drop n)
  | _, _, 0, h => h
  | [], _, _ + 1, h => by simp only [RpL] at h; subst h; exact .nil
  | _ :: _, _, n + 1, h => by
    simp only [RpL] at h
    obtain ⟨v, r, e, _, h2⟩ := h
    subst e
    exact RpL.drop n h2
theorem RpL.take {C : Cn} {H : Hp} : ∀ {ds : List D} {vs : List V} (n : Nat), RpL C H ds vs → RpL C H (ds.take n) (vs.take n)
  | _, _, 0, _ => .nil
  | [], _, _ + 1, h => by simp only [RpL] at h; subst h; exact .nil
  | _ :: _, _, n + 1, h => by
    simp only [RpL] at h
    obtain ⟨v, r, e, h1, h2⟩ := h
    subst e
    exact .cons h1 (RpL.take n h2)
theorem RpL.dropLast {C : Cn} {H : Hp} {ds : List D} {vs : List V} (h : RpL C H ds vs) : RpL C H ds.dropLast vs.dropLast := by
  rw [List.dropLast_eq_take, List.dropLast_eq_take, h.length]
  exact h.take _
theorem RpL.set {C : Cn} {H : Hp} {d : D} {v : V} (hd : Rp C H d v) : ∀ {ds : List D} {vs : List V} (n : Nat), RpL C H ds vs → RpL C H (ds.set n d) (vs.set n v)
  | [], _, _, h => by simp only [RpL] at h; subst h; exact .nil
  | _ :: _, _, 0, h => by
    simp only [RpL] at h
    obtain ⟨v', r, e, _, h2⟩ := h
    subst e
    exact .cons hd h2
  | _ :: _, _, n + 1, h => by
    simp only [RpL] at h
    obtain ⟨v', r, e, h1, h2⟩ := h
    subst e
    exact .cons h1 (RpL.set hd n h2)

/-! ### slots -/
def RM (C : Cn) (H : Hp) : MO → Addr → Prop
  | .lst ds, a => ∃ vs, H a = some (.lst vs) ∧ RpL C H ds vs
  | .dct kvs, a => ∃ kvV, H a = some (.dK kvV) ∧ kvs.map (·.1) = kvV.map (·.1) ∧ RpL C H (kvs.map (·.2)) (kvV.map (·.2))
/-- the ghost: what must stay as it is; the addresses of the arguments that may change -/
structure Gh where
  hp : Hp
  at_ : Nat → Addr
def RSD (C : Cn) (G : Gh) (H : Hp) : SD → V → List Addr → Prop
  | .val d, v, F => Rp C H d v ∧ F = []
  | .own m, v, F => ∃ a, v = .ref a ∧ F = [a] ∧ RM C H m a
  | .io k m, v, F => v = .ref (G.at_ k) ∧ F = [G.at_ k] ∧ RM C H m (G.at_ k)
structure SR (C : Cn) (G : Gh) (H : Hp) (σ : SS) (τ : L2.St) : Prop where
  len : σ.length = τ.length
  gr : ∀ a o, G.hp a = some o → H a = some o
  nt : ∀ a o, G.hp a = some o → notTbl o = true
  tabs : LamX.Tabs C.T H
  ex : ∃ F : Nat → List Addr, (∀ i sd, σ[i]? = some (some sd) → ∃ v, τ[i]? = some (some v) ∧ RSD C G H sd v (F i)) ∧
    (∀ i j a, i ≠ j → a ∈ F i → a ∈ F j → False) ∧ (∀ i a, a ∈ F i → G.hp a = none) ∧ (∀ i, (∀ sd, σ[i]? ≠ some (some sd)) → F i = [])

theorem RM.there {C : Cn} {H : Hp} {m : MO} {a : Addr} (h : RM C H m a) : ∃ o, H a = some o ∧ fixd o = false := by
  cases m with
  | lst ds => obtain ⟨vs, e, _⟩ := h; exact ⟨_, e, rfl⟩
  | dct kvs => obtain ⟨vs, e, _⟩ := h; exact ⟨_, e, rfl⟩
theorem RM.nt {C : Cn} {H : Hp} {m : MO} {b : Addr} (r : RM C H m b) {u : HO} (q : H b = some u) : notTbl u = true := by
  cases m with
  | lst ds => obtain ⟨vs, z, _⟩ := r; rw [q] at z; cases z; rfl
  | dct kvs => obtain ⟨vs, z, _⟩ := r; rw [q] at z; cases z; rfl
theorem RM.keep {C : Cn} {H H' : Hp} {m : MO} {a : Addr} (h : RM C H m a) (f : Fx C.T H H') (k : H' a = H a) : RM C H' m a := by
  cases m with
  | lst ds => obtain ⟨vs, e, r⟩ := h; exact ⟨vs, k.trans e, r.fx f⟩
  | dct kvs => obtain ⟨vs, e, e2, r⟩ := h; exact ⟨vs, k.trans e, e2, r.fx f⟩
theorem RSD.keep {C : Cn} {G : Gh} {H H' : Hp} {sd : SD} {v : V} {F : List Addr} (h : RSD C G H sd v F) (f : Fx C.T H H') (k : ∀ a ∈ F, H' a = H a) : RSD C G H' sd v F := by
  cases sd with
  | val d => exact ⟨h.1.fx f, h.2⟩
  | own m => obtain ⟨a, e, eF, r⟩ := h; exact ⟨a, e, eF, r.keep f (k a (by rw [eF]; exact List.mem_singleton.mpr rfl))⟩
  | io j m => obtain ⟨e, eF, r⟩ := h; exact ⟨e, eF, r.keep f (k _ (by rw [eF]; exact List.mem_singleton.mpr rfl))⟩
theorem RSD.there {C : Cn} {G : Gh} {H : Hp} {sd : SD} {v : V} {F : List Addr} (h : RSD C G H sd v F) {a : Addr} (ha : a ∈ F) : ∃ o, H a = some o ∧ fixd o = false := by
  cases sd with
  | val d => rw [h.2] at ha; cases ha
  | own m => obtain ⟨b, e, eF, r⟩ := h; rw [eF] at ha; rw [List.mem_singleton.mp ha]; exact r.there
  | io j m => obtain ⟨e, eF, r⟩ := h; rw [eF] at ha; rw [List.mem_singleton.mp ha]; exact r.there
theorem RSD.nt {C : Cn} {G : Gh} {H : Hp} {sd : SD} {v : V} {F : List Addr} (h : RSD C G H sd v F) {a : Addr} (ha : a ∈ F) {o : HO} (e : H a = some o) : notTbl o = true := by
  have k : ∀ {m : MO} {b : Addr}, RM C H m b → ∀ {u : HO}, H b = some u → notTbl u = true := fun {m b} r {u} q => by
    cases m with
    | lst ds => obtain ⟨vs, z, _⟩ := r; rw [q] at z; cases z; rfl
    | dct kvs => obtain ⟨vs, z, _⟩ := r; rw [q] at z; cases z; rfl
  cases sd with
  | val d => rw [h.2] at ha; cases ha
  | own m => obtain ⟨b, _, eF, r⟩ := h; rw [eF] at ha; rw [List.mem_singleton.mp ha] at e; exact k r e
  | io j m => obtain ⟨_, eF, r⟩ := h; rw [eF] at ha; rw [List.mem_singleton.mp ha] at e; exact k r e
/-- what stood stays -/
theorem SR.same {C : Cn} {G : Gh} {H H' : Hp} {σ : SS} {τ : L2.St} (h : SR C G H σ τ) (s : Same H H') : SR C G H' σ τ := by
  obtain ⟨l, g, nt, tb, F, h1, h2, h3, h4⟩ := h
  refine ⟨l, fun a o e => s _ _ (g a o e), nt, tb.ext s, F, fun i sd e => ?_, h2, h3, h4⟩
  obtain ⟨v, e1, r⟩ := h1 i sd e
  refine ⟨v, e1, r.keep (.of_same s) fun a ha => ?_⟩
  obtain ⟨o, q, _⟩ := r.there ha
  rw [q, s _ _ q]
theorem SR.weakG {C : Cn} {G G' : Gh} {H : Hp} {σ : SS} {τ : L2.St} (h : SR C G H σ τ) (e : G'.at_ = G.at_) (w : ∀ a o, G'.hp a = some o → G.hp a = some o) : SR C G' H σ τ := by
  obtain ⟨l, g, nt, tb, F, h1, h2, h3, h4⟩ := h
  refine ⟨l, fun a o q => g a o (w a o q), fun a o q => nt a o (w a o q), tb, F, fun i sd q => ?_, h2, fun i a ha => ?_, h4⟩
  · obtain ⟨v, e1, r⟩ := h1 i sd q
    refine ⟨v, e1, ?_⟩
    cases sd with
    | val d => exact r
    | own m => exact r
    | io k m => unfold RSD at r ⊢; rw [e]; exact r
  · cases q : G'.hp a with
    | none => rfl
    | some o => have z := w a o q; rw [h3 i a ha] at z; cases z
/-- more is to stay: a thing that stands and is nobody's -/
theorem SR.addG {C : Cn} {G : Gh} {H : Hp} {σ : SS} {τ : L2.St} {p : Addr} {o : HO} (h : SR C G H σ τ) (hp : H p = some o) (hn : ∃ H0 : Hp, SR C G H0 σ τ ∧ H0 p = none) (no : notTbl o = true := by rfl) : SR C ⟨upd G.hp p o, G.at_⟩ H σ τ := by
  obtain ⟨H0, ⟨_, _, _, _, F0, k1, _, _, k4⟩, z⟩ := hn
  obtain ⟨l, g, nt, tb, F, h1, h2, h3, h4⟩ := h
  have nF : ∀ i, p ∉ F i := fun i hi => by
    cases e : σ[i]? with
    | none => rw [h4 i fun sd q => by rw [e] at q; cases q] at hi; cases hi
    | some s =>
      cases s with
      | none => rw [h4 i fun sd q => by rw [e] at q; cases q] at hi; cases hi
      | some sd =>
        obtain ⟨v, e1, r⟩ := h1 i sd e
        obtain ⟨v', e1', r'⟩ := k1 i sd e
        rw [e1] at e1'; cases e1'
        have hF : F i = F0 i := by
          cases sd with
          | val d => rw [r.2, r'.2]
          | own m => obtain ⟨a, e2, e3, _⟩ := r; obtain ⟨a', e2', e3', _⟩ := r'; rw [e2] at e2'; cases e2'; rw [e3, e3']
          | io k m => rw [r.2.1, r'.2.1]
        rw [hF] at hi
        obtain ⟨o', q, _⟩ := r'.there hi
        rw [z] at q; cases q
  refine ⟨l, fun a u q => ?_, fun a u q => ?_, tb, F, fun i sd q => ?_, h2, fun i a ha => ?_, h4⟩
  · have q : upd G.hp p o a = some u := q
    by_cases e : a = p
    · subst e
      rw [upd_same] at q; cases q; exact hp
    · rw [upd_ne e] at q; exact g a u q
  · have q : upd G.hp p o a = some u := q
    by_cases e : a = p
    · subst e
      rw [upd_same] at q; cases q; exact no
    · rw [upd_ne e] at q; exact nt a u q
  · obtain ⟨v, e1, r⟩ := h1 i sd q
    exact ⟨v, e1, by cases sd <;> exact r⟩
  · show upd G.hp p o a = none
    rw [upd_ne (show a ≠ p by rintro rfl; exact nF i ha)]
    exact h3 i a ha

/-! ### readings -/
/-- an exception that flies -/
def RX (C : Cn) (H : Hp) (x : Ex) (cls : Value) (d : Option Addr) : Prop :=
  cls = .ref (C.ca x.c) ∧ ∃ dd fs v, d = some dd ∧ H dd = some (.xd fs) ∧ fs.lookup (C.cf x.c) = some v ∧ Rp C H x.d v
section
variable {β γ β' γ' : Type}
def PostG (R : L2.St → Hp → β → γ → Prop) (C : Cn) (W : WX) (τ : L2.St) (G : Gh) (H : Hp) (o : O β) (Q : γ → Hp → Prop) : Prop := match o with
  | .bad => False
  | .ok b σ' => ∀ v H', R τ H' b v → SR C G H' σ' τ → Fx C.T H H' → Q v H'
  | .ex x σ' => ∀ cls d H', RX C H' x cls d → SR C G H' σ' τ → Fx C.T H H' → W cls d τ H'
def tG (R : L2.St → Hp → β → γ → Prop) (C : Cn) (W : WX) (m : SS → O β) : L2.St → Hp → (γ → Hp → Prop) → Prop :=
  fun τ H Q => ∃ G σ, SR C G H σ τ ∧ PostG R C W τ G H (m σ) Q
variable {R : L2.St → Hp → β → γ → Prop} {R' : L2.St → Hp → β' → γ' → Prop} {C : Cn} {W : WX} {m : SS → O β} {f : β → SS → O β'} {τ : L2.St} {H : Hp}
theorem tG.mono {Q Q' : γ → Hp → Prop} (h : tG R C W m τ H Q) (k : ∀ x H1, Q x H1 → Q' x H1) : tG R C W m τ H Q' := by
  obtain ⟨G, σ, r, p⟩ := h
  refine ⟨G, σ, r, ?_⟩
  unfold PostG at p ⊢
  cases e : m σ with
  | bad => rw [e] at p; exact p
  | ok b σ' => rw [e] at p; exact fun v H' a b c => k _ _ (p v H' a b c)
  | ex x σ' => rw [e] at p; exact p
theorem tG_bind {Q : γ' → Hp → Prop} (h : tG R' C W (fun σ => (m σ).bind f) τ H Q) : tG R C W m τ H fun x H1 => ∃ b, R τ H1 b x ∧ Fx C.T H H1 ∧ tG R' C W (f b) τ H1 Q := by
  obtain ⟨G, σ, r, p⟩ := h
  have p : PostG R' C W τ G H ((m σ).bind f) Q := p
  refine ⟨G, σ, r, ?_⟩
  cases e : m σ with
  | bad => rw [e] at p; exact p
  | ok b σ' =>
    rw [e] at p
    have p : PostG R' C W τ G H (f b σ') Q := p
    show ∀ v H', R τ H' b v → SR C G H' σ' τ → Fx C.T H H' → _
    intro v H' a b1 c
    refine ⟨b, a, c, G, σ', b1, ?_⟩
    cases e2 : f b σ' with
    | bad => rw [e2] at p; exact p
    | ok b2 σ2 => rw [e2] at p; exact fun v2 H2 a2 b2 c2 => p v2 H2 a2 b2 (c.trans c2)
    | ex x2 σ2 => rw [e2] at p; exact fun cl d H2 a2 b2 c2 => p cl d H2 a2 b2 (c.trans c2)
  | ex x σ' => rw [e] at p; exact p
theorem tG_opt {o : Option β} {Q : γ → Hp → Prop} (h : tG R C W (ofOpt o) τ H Q) : ∃ b, o = some b ∧ ∀ v H', Same H H' → R τ H' b v → Q v H' := by
  obtain ⟨G, σ, r, p⟩ := h
  cases o with
  | none => exact p.elim
  | some b => exact ⟨b, rfl, fun v H' s a => p v H' a (r.same s) (.of_same s)⟩
end
abbrev tE (C : Cn) (W : WX) (m : SS → O D) : TE := tG (fun _ => Rp C) C W m
abbrev tT (C : Cn) (W : WX) (m : SS → O Bool) : TT := tG (fun _ _ b b' => b' = b) C W m
abbrev tA (C : Cn) (W : WX) (m : SS → O (List D)) : TA := tG (fun _ => RpL C) C W m
structure ME (X : Cx) (C : Cn) (e : Expr) (m : SS → O D) : Prop where
  pe : ∀ E W, Takes (X.wish E) W → PE (X.wish E) e (tE C W m)
structure MT (X : Cx) (C : Cn) (e : Expr) (m : SS → O Bool) : Prop where
  pt : ∀ E W, Takes (X.wish E) W → PT (X.wish E) e (tT C W m)
structure MW (X : Cx) (C : Cn) (e : Expr) (m : SS → O Bool) : Prop where
  pw : ∀ E W, Takes (X.wish E) W → PW (X.wish E) e (tT C W m)
structure MA (X : Cx) (C : Cn) (es : List Expr) (m : SS → O (List D)) : Prop where
  pa : ∀ E W, Takes (X.wish E) W → PA (X.wish E) es (tA C W m)
theorem _root_.L2.PE.imp {X : Cx} {e : Expr} {t t' : TE} (h : PE X e t) (k : ∀ τ H Q, t' τ H Q → t τ H Q) : PE X e t' := ⟨fun p s τ H Q I q => h.run p s τ H Q I (k _ _ _ q)⟩
theorem _root_.L2.PT.imp {X : Cx} {e : Expr} {t t' : TT} (h : PT X e t) (k : ∀ τ H Q, t' τ H Q → t τ H Q) : PT X e t' := ⟨fun p s τ H Q I q => h.run p s τ H Q I (k _ _ _ q)⟩
theorem _root_.L2.PW.imp {X : Cx} {e : Expr} {t t' : TT} (h : PW X e t) (k : ∀ τ H Q, t' τ H Q → t τ H Q) : PW X e t' := ⟨fun wh p s τ H Q I q => h.run wh p s τ H Q I (k _ _ _ q)⟩
theorem _root_.L2.PA.imp {X : Cx} {e : List Expr} {t t' : TA} (h : PA X e t) (k : ∀ τ H Q, t' τ H Q → t τ H Q) : PA X e t' := ⟨fun po p s τ H Q I q => h.run po p s τ H Q I (k _ _ _ q)⟩
theorem _root_.L2.PS.imp {X : Cx} {e : Stmt} {t t' : TS} (h : PS X e t) (k : ∀ D τ H, t' D τ H → t D τ H) : PS X e t' := ⟨fun p s τ H D I q => h.run p s τ H D I (k _ _ _ q)⟩
theorem _root_.L2.PSs.imp {X : Cx} {e : List Stmt} {t t' : TS} (h : PSs X e t) (k : ∀ D τ H, t' D τ H → t D τ H) : PSs X e t' := ⟨fun p s τ H D I q => h.run p s τ H D I (k _ _ _ q)⟩

/-- statements -/
def PostS (C : Cn) (W : WX) (G : Gh) (τ : L2.St) (H : Hp) (o : OS) (D : Ends) : Prop := match o with
  | .bad => False
  | .nx σ' => ∀ τ' H', SR C G H' σ' τ' → Fx C.T H H' → D.nx τ' H'
  | .bk σ' => ∀ τ' H', SR C G H' σ' τ' → Fx C.T H H' → D.bk τ' H'
  | .ct σ' => ∀ τ' H', SR C G H' σ' τ' → Fx C.T H H' → D.ct τ' H'
  | .rt d σ' => ∀ v τ' H', Rp C H' d v → SR C G H' σ' τ' → Fx C.T H H' → D.rt v H'
  | .rtm m σ' => ∀ a o τ' H', H' a = some o → RM C H' m a → G.hp a = none → SR C ⟨upd G.hp a o, G.at_⟩ H' σ' τ' → Fx C.T H H' → D.rt (.ref a) H'
  | .ex x σ' => ∀ cls d τ' H', RX C H' x cls d → SR C G H' σ' τ' → Fx C.T H H' → W cls d τ' H'
def tSt (C : Cn) (W : WX) (m : SS → OS) : TS := fun D τ H => ∃ G σ, SR C G H σ τ ∧ PostS C W G τ H (m σ) D
structure MS (X : Cx) (C : Cn) (st : Stmt) (m : SS → OS) : Prop where
  ps : ∀ E W, Takes (X.wish E) W → PassesOwn (model X.prog X.w) X.A X.env E → PS (X.wish E) st (tSt C W m)
structure MSs (X : Cx) (C : Cn) (st : List Stmt) (m : SS → OS) : Prop where
  ps : ∀ E W, Takes (X.wish E) W → PassesOwn (model X.prog X.w) X.A X.env E → PSs (X.wish E) st (tSt C W m)
end TL

set_option Elab.async false
set_option linter.all false
set_option maxRecDepth 100000
set_option maxHeartbeats 4000000
/-! TL2: slots, handles, names, displays, operators. -/
namespace TL
open PySem PySem.Spec PyProof.Rows L2

/-! ### slots change -/
section
variable {C : Cn} {G : Gh} {H H' : Hp} {σ : SS} {τ : L2.St} {i : Nat} {v : V} {d : D} {a : Addr} {o o2 : HO}
def ptF (i : Nat) (A : List Addr) (F : Nat → List Addr) : Nat → List Addr := fun j => if j = i then A else F j
theorem ptF_same {i : Nat} {A : List Addr} {F : Nat → List Addr} : ptF i A F i = A := if_pos rfl
theorem ptF_ne {i j : Nat} {A : List Addr} {F : Nat → List Addr} (h : ¬ j = i) : ptF i A F j = F j := if_neg h
theorem SR.setVal (h : SR C G H σ τ) (r : Rp C H d v) : SR C G H (σ.set i (some (.val d))) (τ.set i (some v)) := by
  obtain ⟨l, g, nt, tb, F, h1, h2, h3, h4⟩ := h
  refine ⟨by simpa using l, g, nt, tb, ptF i [] F, fun j sd e => ?_, fun j k b hn h5 h6 => ?_, fun j b hb => ?_, fun j hn => ?_⟩
  · by_cases hj : j = i
    · subst hj
      rw [ptF_same]
      rw [List.getElem?_set] at e
      split at e
      · split at e
        · cases e
          exact ⟨v, by rw [List.getElem?_set]; rename_i hl; rw [if_pos rfl, if_pos (l ▸ hl)], r, rfl⟩
        · cases e
      · exact absurd rfl (by assumption)
    · rw [ptF_ne hj]
      rw [List.getElem?_set_ne (Ne.symm hj)] at e
      rw [List.getElem?_set_ne (Ne.symm hj)]
      exact h1 j sd e
  · by_cases hj : j = i
    · rw [hj, ptF_same] at h5; cases h5
    · rw [ptF_ne hj] at h5
      by_cases hk : k = i
      · rw [hk, ptF_same] at h6; cases h6
      · rw [ptF_ne hk] at h6; exact h2 j k b hn h5 h6
  · by_cases hj : j = i
    · rw [hj, ptF_same] at hb; cases hb
    · rw [ptF_ne hj] at hb; exact h3 j b hb
  · by_cases hj : j = i
    · rw [hj, ptF_same]
    · rw [ptF_ne hj]
      refine h4 j fun sd e => hn sd ?_
      rw [List.getElem?_set_ne (Ne.symm hj)]; exact e
theorem SR.freeG (h : SR C ⟨upd G.hp a o, G.at_⟩ H σ τ) (n : G.hp a = none) : SR C G H σ τ :=
  h.weakG rfl fun b u e => by
    show upd G.hp a o b = some u
    rw [upd_ne (show b ≠ a by rintro rfl; rw [n] at e; cases e)]; exact e
/-- the thing that is nobody's is written -/
theorem SR.fz (h : SR C ⟨upd G.hp a o, G.at_⟩ H σ τ) (n : G.hp a = none) (f : Fx C.T H (upd H a o2)) : SR C G (upd H a o2) σ τ := by
  obtain ⟨l, g, nt, tb, F, h1, h2, h3, h4⟩ := h
  have na : ∀ j b, b ∈ F j → b ≠ a := fun j b hb e => by
    have z : upd G.hp a o b = none := h3 j b hb
    rw [e, upd_same] at z; cases z
  refine ⟨l, fun b u e => ?_, fun b u e => nt b u (by show upd G.hp a o b = some u; rw [upd_ne (show b ≠ a by rintro rfl; rw [n] at e; cases e)]; exact e), f.2 tb, F, fun j sd e => ?_, h2, fun j b hb => ?_, h4⟩
  · have hb : b ≠ a := by rintro rfl; rw [n] at e; cases e
    rw [upd_ne hb]
    exact g b u (by show upd G.hp a o b = some u; rw [upd_ne hb]; exact e)
  · obtain ⟨w, e1, r⟩ := h1 j sd e
    refine ⟨w, e1, ?_⟩
    have r' : RSD C G H sd w (F j) := by cases sd <;> exact r
    exact r'.keep f fun b hb => upd_ne (na j b hb)
  · have z : upd G.hp a o b = none := h3 j b hb
    rw [upd_ne (na j b hb)] at z; exact z
/-- a new thing comes to a slot -/
theorem SR.setOwn {m : MO} (h : SR C ⟨upd G.hp a o, G.at_⟩ H σ τ) (n : G.hp a = none) (r : RM C H m a) : SR C G H (σ.set i (some (.own m))) (τ.set i (some (.ref a))) := by
  obtain ⟨l, g, nt, tb, F, h1, h2, h3, h4⟩ := h
  have na : ∀ j b, b ∈ F j → b ≠ a := fun j b hb e => by
    have z : upd G.hp a o b = none := h3 j b hb
    rw [e, upd_same] at z; cases z
  refine ⟨by simpa using l, fun b u e => ?_, fun b u e => nt b u (by show upd G.hp a o b = some u; rw [upd_ne (show b ≠ a by rintro rfl; rw [n] at e; cases e)]; exact e), tb, ptF i (if i < σ.length then [a] else []) F, fun j sd e => ?_, fun j k b hn h5 h6 => ?_, fun j b hb => ?_, fun j hn => ?_⟩
  · have hb : b ≠ a := by rintro rfl; rw [n] at e; cases e
    exact g b u (by show upd G.hp a o b = some u; rw [upd_ne hb]; exact e)
  · by_cases hj : j = i
    · subst hj
      rw [ptF_same]
      rw [List.getElem?_set] at e
      split at e
      · split at e
        · cases e
          rename_i hl
          rw [if_pos hl]
          exact ⟨.ref a, by rw [List.getElem?_set]; rw [if_pos rfl, if_pos (l ▸ hl)], a, rfl, rfl, r⟩
        · cases e
      · exact absurd rfl (by assumption)
    · rw [ptF_ne hj]
      rw [List.getElem?_set_ne (Ne.symm hj)] at e
      rw [List.getElem?_set_ne (Ne.symm hj)]
      obtain ⟨w, e1, r1⟩ := h1 j sd e
      exact ⟨w, e1, by cases sd <;> exact r1⟩
  · by_cases hj : j = i
    · rw [hj, ptF_same] at h5
      by_cases hk : k = i
      · exact hn (hj.trans hk.symm)
      · rw [ptF_ne hk] at h6
        split at h5
        · exact na k b h6 (List.mem_singleton.mp h5)
        · cases h5
    · rw [ptF_ne hj] at h5
      by_cases hk : k = i
      · rw [hk, ptF_same] at h6
        split at h6
        · exact na j b h5 (List.mem_singleton.mp h6)
        · cases h6
      · rw [ptF_ne hk] at h6; exact h2 j k b hn h5 h6
  · by_cases hj : j = i
    · rw [hj, ptF_same] at hb
      split at hb
      · rw [List.mem_singleton.mp hb]; exact n
      · cases hb
    · rw [ptF_ne hj] at hb
      have z : upd G.hp a o b = none := h3 j b hb
      rw [upd_ne (na j b hb)] at z; exact z
  · by_cases hj : j = i
    · subst hj
      rw [ptF_same]
      split
      · rename_i hl
        exact absurd (by rw [List.getElem?_set, if_pos rfl, if_pos hl]) (hn (.own m))
      · rfl
    · rw [ptF_ne hj]
      refine h4 j fun sd e => hn sd ?_
      rw [List.getElem?_set_ne (Ne.symm hj)]; exact e
/-- the slot's thing -/
theorem SR.at (h : SR C G H σ τ) {sd : SD} (e : σ[i]? = some (some sd)) : ∃ v F, τ[i]? = some (some v) ∧ RSD C G H sd v F := by
  obtain ⟨l, g, _, _, F, h1, _⟩ := h
  obtain ⟨v, e1, r⟩ := h1 i sd e
  exact ⟨v, F i, e1, r⟩
/-- the slot's own thing is written: it may become another thing, or stand from now on -/
theorem SR.write (h : SR C G H σ τ) {sd sd' : SD} {F0 F1 : List Addr} (e : σ[i]? = some (some sd)) (hv : τ[i]? = some (some v)) (r : RSD C G H sd v F0) (ha : a ∈ F0) (f : Fx C.T H (upd H a o2)) (r' : RSD C G (upd H a o2) sd' v F1) (hs : ∀ b ∈ F1, b ∈ F0) (h0 : F0 = [a]) :
    SR C G (upd H a o2) (σ.set i (some sd')) τ := by
  obtain ⟨l, g, nt, tb, F, h1, h2, h3, h4⟩ := h
  obtain ⟨v', e1, r1⟩ := h1 i sd e
  rw [hv] at e1; cases e1
  have hF : F i = F0 := by
    cases sd with
    | val d => rw [r.2, r1.2]
    | own m => obtain ⟨a, e2, e3, _⟩ := r; obtain ⟨a', e2', e3', _⟩ := r1; rw [e2] at e2'; cases e2'; rw [e3, e3']
    | io k m => rw [r.2.1, r1.2.1]
  have hai : a ∈ F i := by rw [hF]; exact ha
  have nG : G.hp a = none := h3 i a hai
  have nj : ∀ j b, j ≠ i → b ∈ F j → b ≠ a := fun j b hj hb e => h2 j i a hj (e ▸ hb) hai
  have hil : i < σ.length := by
    obtain ⟨q, _⟩ := List.getElem?_eq_some_iff.mp e
    exact q
  refine ⟨by simpa using l, fun b u q => ?_, nt, f.2 tb, ptF i F1 F, fun j s q => ?_, fun j k b hn h5 h6 => ?_, fun j b hb => ?_, fun j hn => ?_⟩
  · rw [upd_ne (show b ≠ a by rintro rfl; rw [nG] at q; cases q)]
    exact g b u q
  · by_cases hj : j = i
    · subst hj
      rw [ptF_same]
      rw [List.getElem?_set, if_pos rfl, if_pos hil] at q
      cases q
      exact ⟨v, hv, r'⟩
    · rw [ptF_ne hj]
      rw [List.getElem?_set_ne (Ne.symm hj)] at q
      obtain ⟨w, e2, r2⟩ := h1 j s q
      exact ⟨w, e2, r2.keep f fun b hb => upd_ne (nj j b hj hb)⟩
  · by_cases hj : j = i
    · rw [hj, ptF_same] at h5
      by_cases hk : k = i
      · exact hn (hj.trans hk.symm)
      · rw [ptF_ne hk] at h6
        have := hs b h5
        rw [h0] at this
        exact nj k b hk h6 (List.mem_singleton.mp this)
    · rw [ptF_ne hj] at h5
      by_cases hk : k = i
      · rw [hk, ptF_same] at h6
        have := hs b h6
        rw [h0] at this
        exact nj j b hj h5 (List.mem_singleton.mp this)
      · rw [ptF_ne hk] at h6; exact h2 j k b hn h5 h6
  · by_cases hj : j = i
    · rw [hj, ptF_same] at hb
      have := hs b hb
      rw [h0] at this
      rw [List.mem_singleton.mp this]; exact nG
    · rw [ptF_ne hj] at hb; exact h3 j b hb
  · by_cases hj : j = i
    · subst hj
      exact absurd (by rw [List.getElem?_set, if_pos rfl, if_pos hil]) (hn sd')
    · rw [ptF_ne hj]
      refine h4 j fun s q => hn s ?_
      rw [List.getElem?_set_ne (Ne.symm hj)]; exact q
end

/-! ### freezing -/
def FzQ (Q : VK) : VK := fun v H => Q v H ∨ ∃ a vs, v = .ref a ∧ H a = some (.lst vs) ∧ ∀ o, Q v (upd H a (.frz o (.lst vs)))
theorem _root_.L2.EP.fz {X : Cx} {pins : List (Addr × Obj)} {σ : L2.St} {Q : VK} {u : Value} {s : Shared} (h : EP X pins σ (FzQ Q) u s) : EP X pins σ Q u s := by
  obtain ⟨v, H, I, r, q⟩ := h
  rcases q with q | ⟨a, vs, e, ha, q⟩
  · exact ⟨v, H, I, r, q⟩
  · obtain ⟨od, J⟩ := I.lock ha True.intro
    exact ⟨v, _, J, r, q od⟩
def tFz (t : TE) : TE := fun τ H Q => t τ H (FzQ Q)
theorem pe_fz {X : Cx} {e : Expr} {t : TE} (h : PE X e t) : PE X e (tFz t) := ⟨fun p s τ H Q I q => thn (h.run p s τ H _ I q) fun _ _ z => EP.fz z⟩

/-! ### names as values -/
/-- the slot's value; a list of the frame's own stands from now on -/
def sVar (i : Nat) : SS → O D := fun σ => match σ[i]? with
  | some (some (.val d)) => .ok d σ
  | some (some (.own (.lst ds))) => .ok (.lst ds) (σ.set i (some (.val (.lst ds))))
  | _ => .bad
theorem upd_frz_fx {T : List (Addr × Str)} {H : Hp} {a : Addr} {vs : List V} {o : Obj} (h : H a = some (.lst vs)) : Fx T H (upd H a (.frz o (.lst vs))) := Fx.upd h rfl
theorem rp_frz {C : Cn} {H : Hp} {a : Addr} {vs : List V} {ds : List D} {o : Obj} (h : H a = some (.lst vs)) (r : RpL C H ds vs) : Rp C (upd H a (.frz o (.lst vs))) (.lst ds) (.ref a) := by
  simp only [Rp]
  exact ⟨a, vs, rfl, .inl ⟨o, upd_same⟩, r.fx (upd_frz_fx h)⟩
theorem me_var {X : Cx} {C : Cn} (i : Nat) {x : Str} {pos : Pos} (hN : X.N[i]? = some x := by rfl) (hv : Vis X.env.scope x := by first | exact Or.inl rfl | exact Or.inr (Or.inl rfl) | exact Or.inr (Or.inr rfl)) (hd : (x == ("__debug__" : Str)) = false := by decide)
    (hcd : (x == ("__classdict__" : Str)) = false := by decide) : ME X C (.Name x pos) (sVar i) := by
  refine ⟨fun E W tk => (pe_fz (pv (X := X.wish E) i hN hv hd hcd)).imp fun τ H Q h => ?_⟩
  obtain ⟨G, σ, r, p⟩ := h
  unfold sVar at p
  show ∃ v, _
  split at p
  · rename_i d e
    obtain ⟨v, F, e1, r1, _⟩ := r.at e
    exact ⟨v, e1, .inl (p v H r1 r (.refl H))⟩
  · rename_i ds e
    obtain ⟨v, F, e1, a, e2, e3, vs, e4, r1⟩ := r.at e
    refine ⟨v, e1, .inr ⟨a, vs, e2, e4, fun o => ?_⟩⟩
    subst e2
    have r2 := rp_frz (o := o) e4 r1
    exact p _ _ r2 (r.write e e1 ⟨a, rfl, e3, vs, e4, r1⟩ (by rw [e3]; exact List.mem_singleton.mpr rfl) (upd_frz_fx e4) ⟨r2, rfl⟩ (fun b hb => by cases hb) e3) (upd_frz_fx e4)
  · exact p.elim

/-! ### operands: a value, or what a slot holds when it is asked -/
inductive Hd where | dat (d : D) | slot (i : Nat)
def look (σ : SS) (i : Nat) : Option D := match σ[i]? with
  | some (some (.val d)) => some d
  | some (some (.own (.lst ds))) => some (.lst ds)
  | some (some (.io _ (.lst ds))) => some (.lst ds)
  | _ => none
def res (σ : SS) : Hd → Option D
  | .dat d => some d
  | .slot i => look σ i
def RH (C : Cn) (τ : L2.St) (H : Hp) : Hd → V → Prop
  | .dat d, v => Rp C H d v
  | .slot i, v => τ[i]? = some (some v)
theorem RH.fx {C : Cn} {τ : L2.St} {H H' : Hp} {h : Hd} {v : V} (r : RH C τ H h v) (f : Fx C.T H H') : RH C τ H' h v := by
  cases h with
  | dat d => exact Rp.fx f r
  | slot i => exact r
/-- data that is read now -/
def Rb (C : Cn) (H : Hp) : D → V → Prop
  | .lst ds, v => ∃ a vs, v = .ref a ∧ SqL C.K H a vs ∧ RpL C H ds vs
  | d, v => Rp C H d v
theorem Rp.rb {C : Cn} {H : Hp} {d : D} {v : V} (h : Rp C H d v) : Rb C H d v := by
  cases d with
  | lst ds =>
    simp only [Rp] at h
    obtain ⟨a, vs, e, s, r⟩ := h
    refine ⟨a, vs, e, ?_, r⟩
    rcases s with ⟨o, s⟩ | s
    · exact .inl (.inr ⟨o, s⟩)
    · exact .inr s
  | _ => exact h
theorem SR.res {C : Cn} {G : Gh} {H : Hp} {σ : SS} {τ : L2.St} {h : Hd} {v : V} {d : D} (r : SR C G H σ τ) (rh : RH C τ H h v) (e : res σ h = some d) : Rb C H d v := by
  cases h with
  | dat d' =>
    have : d' = d := Option.some.inj e
    subst this
    exact Rp.rb rh
  | slot i =>
    have e : look σ i = some d := e
    have rh : τ[i]? = some (some v) := rh
    unfold look at e
    split at e
    · rename_i d' q
      cases e
      obtain ⟨v', F, e1, r1, _⟩ := r.at q
      rw [rh] at e1; cases e1
      exact r1.rb
    · rename_i ds q
      cases e
      obtain ⟨v', F, e1, a, e2, e3, vs, e4, r1⟩ := r.at q
      rw [rh] at e1; cases e1
      exact ⟨a, vs, e2, .inl (.inl e4), r1⟩
    · rename_i k ds q
      cases e
      obtain ⟨v', F, e1, e2, e3, vs, e4, r1⟩ := r.at q
      rw [rh] at e1; cases e1
      exact ⟨_, vs, e2, .inl (.inl e4), r1⟩
    · cases e
abbrev tHd (C : Cn) (W : WX) (m : SS → O Hd) : TE := tG (RH C) C W m
structure MH (X : Cx) (C : Cn) (e : Expr) (m : SS → O Hd) : Prop where
  pe : ∀ E W, Takes (X.wish E) W → PE (X.wish E) e (tHd C W m)
def sHv (m : SS → O D) : SS → O Hd := fun σ => (m σ).bind fun d σ' => .ok (.dat d) σ'
theorem mh_val {X : Cx} {C : Cn} {e : Expr} {m : SS → O D} (h : ME X C e m) : MH X C e (sHv m) := by
  refine ⟨fun E W tk => (h.pe E W tk).imp fun τ H Q q => (tG_bind (R := fun _ => Rp C) q).mono fun x H1 ⟨d, r, f, G, σ, sr, p⟩ => p x H1 r sr (.refl _)⟩
def sHn (i : Nat) : SS → O Hd := fun σ => match σ[i]? with
  | some (some _) => .ok (.slot i) σ
  | _ => .bad
theorem mh_name {X : Cx} {C : Cn} (i : Nat) {x : Str} {pos : Pos} (hN : X.N[i]? = some x := by rfl) (hv : Vis X.env.scope x := by first | exact Or.inl rfl | exact Or.inr (Or.inl rfl) | exact Or.inr (Or.inr rfl)) (hd : (x == ("__debug__" : Str)) = false := by decide)
    (hcd : (x == ("__classdict__" : Str)) = false := by decide) : MH X C (.Name x pos) (sHn i) := by
  refine ⟨fun E W tk => (pv (X := X.wish E) i hN hv hd hcd).imp fun τ H Q h => ?_⟩
  obtain ⟨G, σ, r, p⟩ := h
  unfold sHn at p
  split at p
  · rename_i sd e
    obtain ⟨v, F, e1, r1⟩ := r.at e
    exact ⟨v, e1, p v H e1 r (.refl H)⟩
  · exact p.elim

/-! ### constants -/
def sC (d : D) : SS → O D := fun σ => .ok d σ
theorem tG_ret {β γ : Type} {R : L2.St → Hp → β → γ → Prop} {C : Cn} {W : WX} {τ : L2.St} {H : Hp} {Q : γ → Hp → Prop} {b : β} (h : tG R C W (fun σ => .ok b σ) τ H Q) : ∀ v, R τ H b v → Q v H := fun v r => by
  obtain ⟨G, σ, sr, p⟩ := h
  exact p v H r sr (.refl _)
section
variable {X : Cx} {C : Cn} {pos : Pos} {j : Nat}
theorem me_int {i : Int} : ME X C (.Constant (.int i) j pos) (sC (.int i)) := ⟨fun E W tk => pe_int.imp fun τ H Q h => tG_ret h _ (by simp only [Rp])⟩
theorem me_bl {b : Bool} : ME X C (.Constant (.bool b) j pos) (sC (.bl b)) := ⟨fun E W tk => pe_bl.imp fun τ H Q h => tG_ret h _ (by simp only [Rp])⟩
theorem me_non : ME X C (.Constant .none j pos) (sC .non) := ⟨fun E W tk => pe_non.imp fun τ H Q h => tG_ret h _ (by simp only [Rp])⟩
theorem me_str {x : Str} : ME X C (.Constant (.str x) j pos) (sC (.str x)) := ⟨fun E W tk => pe_str.imp fun τ H Q h => tG_ret h _ (by simp only [Rp])⟩
/-- a constant of the module: data in the written part -/
theorem me_glob {x : Str} {d : D} {v : V} {u : Value} (hg : Gl X x) (hm : X.mg x = some u) (r : RelV v u) (hd : ∀ H, Rp C H d v) (hdb : (x == ("__debug__" : Str)) = false := by decide) : ME X C (.Name x pos) (sC d) :=
  ⟨fun E W tk => (pe_glob (X := X.wish E) hg hm r hdb).imp fun τ H Q h => tG_ret h _ (hd H)⟩
end

/-! ### argument lists, displays -/
def sNil : SS → O (List D) := fun σ => .ok [] σ
def sCons (a : SS → O D) (m : SS → O (List D)) : SS → O (List D) := fun σ => (a σ).bind fun d σ1 => (m σ1).bind fun ds σ2 => .ok (d :: ds) σ2
section
variable {X : Cx} {C : Cn} {pos : Pos} {e : Expr} {es : List Expr} {a : SS → O D} {m : SS → O (List D)}
theorem ma_nil : MA X C [] sNil := ⟨fun E W tk => pa_nil.imp fun τ H Q h => tG_ret h _ .nil⟩
theorem ma_cons (ha : ME X C e a) (hm : MA X C es m) (hs : starEach (e :: es) X.env = (false, eval e X.env) :: starEach es X.env := by rfl) : MA X C (e :: es) (sCons a m) := by
  refine ⟨fun E W tk => (pa_cons (ha.pe E W tk) (hm.pa E W tk) hs).imp fun τ H Q h => ?_⟩
  refine (tG_bind (R := fun _ => Rp C) h).mono fun x H1 ⟨d, r1, f1, h1⟩ => ?_
  refine (tG_bind (R := fun _ => RpL C) h1).mono fun xs H2 ⟨ds, r2, f2, h2⟩ => ?_
  exact tG_ret h2 _ (.cons (r1.fx f2) r2)
def LIM : Nat := 16777216
theorem LIM_eq : sizeLine = LIM := sizeLine_eq
def sTup (m : SS → O (List D)) : SS → O D := fun σ => (m σ).bind fun ds σ' => if ds.length ≤ LIM then .ok (.tup ds) σ' else .bad
theorem me_tup {x1} (hm : MA X C es m) : ME X C (.Tuple es x1 pos) (sTup m) := by
  refine ⟨fun E W tk => (pe_tup (hm.pa E W tk)).imp fun τ H Q h => ?_⟩
  refine (tG_bind (R := fun _ => RpL C) h).mono fun xs H1 ⟨ds, r1, f1, G, σ, sr, p⟩ => ?_
  split at p
  · rename_i hl
    refine ⟨by rw [LIM_eq, r1.length]; exact hl, fun q hq => ?_⟩
    have s : Same H1 (upd H1 q (.tup xs)) := same_new hq
    exact p _ _ (by simp only [Rp]; exact ⟨q, xs, rfl, SqT.of upd_same, r1.fx (.of_same s)⟩) (sr.same s) (.of_same s)
  · exact p.elim

/-! ### new lists -/
def PostF (C : Cn) (W : WX) (τ : L2.St) (G : Gh) (H : Hp) (o : O (List D)) (Q : VK) : Prop := match o with
  | .bad => False
  | .ok ds σ' => ∀ a vs H', H' a = some (.lst vs) → RpL C H' ds vs → G.hp a = none → SR C ⟨upd G.hp a (.lst vs), G.at_⟩ H' σ' τ → Fx C.T H H' → Q (.ref a) H'
  | .ex x σ' => ∀ cls d H', RX C H' x cls d → SR C G H' σ' τ → Fx C.T H H' → W cls d τ H'
def tF (C : Cn) (W : WX) (m : SS → O (List D)) : TE := fun τ H Q => ∃ G σ, SR C G H σ τ ∧ PostF C W τ G H (m σ) Q
structure MF (X : Cx) (C : Cn) (e : Expr) (m : SS → O (List D)) : Prop where
  pe : ∀ E W, Takes (X.wish E) W → PE (X.wish E) e (tF C W m)
theorem tF_bind {β γ : Type} {R : L2.St → Hp → β → γ → Prop} {C : Cn} {W : WX} {m : SS → O β} {f : β → SS → O (List D)} {τ : L2.St} {H : Hp} {Q : VK} (h : tF C W (fun σ => (m σ).bind f) τ H Q) :
    tG R C W m τ H fun x H1 => ∃ b, R τ H1 b x ∧ Fx C.T H H1 ∧ tF C W (f b) τ H1 Q := by
  obtain ⟨G, σ, r, p⟩ := h
  have p : PostF C W τ G H ((m σ).bind f) Q := p
  refine ⟨G, σ, r, ?_⟩
  cases e : m σ with
  | bad => rw [e] at p; exact p
  | ok b σ' =>
    rw [e] at p
    have p : PostF C W τ G H (f b σ') Q := p
    show ∀ v H', R τ H' b v → SR C G H' σ' τ → Fx C.T H H' → _
    intro v H' a b1 c
    refine ⟨b, a, c, G, σ', b1, ?_⟩
    cases e2 : f b σ' with
    | bad => rw [e2] at p; exact p
    | ok b2 σ2 => rw [e2] at p; exact fun a2 vs2 H2 h1 h2 h3 h4 c2 => p a2 vs2 H2 h1 h2 h3 h4 (c.trans c2)
    | ex x2 σ2 => rw [e2] at p; exact fun cl d H2 a2 b2 c2 => p cl d H2 a2 b2 (c.trans c2)
  | ex x σ' => rw [e] at p; exact p
/-- a new list at p -/
theorem SR.new {C : Cn} {G : Gh} {H : Hp} {σ : SS} {τ : L2.St} {p : Addr} {o : HO} (h : SR C G H σ τ) (hp : H p = none) (no : notTbl o = true := by rfl) : G.hp p = none ∧ SR C ⟨upd G.hp p o, G.at_⟩ (upd H p o) σ τ := by
  refine ⟨?_, (h.same (same_new hp)).addG upd_same ⟨H, h, hp⟩ no⟩
  cases q : G.hp p with
  | none => rfl
  | some u => rw [h.gr p u q] at hp; cases hp
theorem mf_lst (hm : MA X C es m) : MF X C (.List es pos) (fun σ => (m σ).bind fun ds σ' => if ds.length ≤ LIM then .ok ds σ' else .bad) := by
  refine ⟨fun E W tk => (pe_lst (hm.pa E W tk)).imp fun τ H Q h => ?_⟩
  refine (tF_bind (R := fun _ => RpL C) h).mono fun xs H1 ⟨ds, r1, f1, G, σ, sr, p⟩ => ?_
  split at p
  · rename_i hl
    refine ⟨by rw [LIM_eq, r1.length]; exact hl, fun q hq => ?_⟩
    have s : Same H1 (upd H1 q (.lst xs)) := same_new hq
    obtain ⟨n, sr2⟩ := sr.new (o := .lst xs) hq
    exact p _ _ _ upd_same (r1.fx (.of_same s)) n sr2 (.of_same s)
  · exact p.elim
def sFz (m : SS → O (List D)) : SS → O D := fun σ => (m σ).bind fun ds σ' => .ok (.lst ds) σ'
theorem me_fz {e : Expr} (hm : MF X C e m) : ME X C e (sFz m) := by
  refine ⟨fun E W tk => (pe_fz (hm.pe E W tk)).imp fun τ H Q h => ?_⟩
  obtain ⟨G, σ, r, p⟩ := h
  have p : PostG (fun _ => Rp C) C W τ G H ((m σ).bind fun ds σ' => .ok (.lst ds) σ') Q := p
  refine ⟨G, σ, r, ?_⟩
  cases e : m σ with
  | bad => rw [e] at p; exact p
  | ex x σ' => rw [e] at p; exact p
  | ok ds σ' =>
    rw [e] at p
    intro a vs H' h1 h2 h3 h4 f
    refine .inr ⟨a, vs, rfl, h1, fun o => ?_⟩
    exact p _ _ (rp_frz h1 h2) (h4.fz h3 (upd_frz_fx h1)) (f.trans (upd_frz_fx h1))
end
end TL

set_option Elab.async false
set_option linter.all false
set_option maxRecDepth 100000
set_option maxHeartbeats 4000000
/-! TL3: operators, comparisons, tests, subscripts. -/
namespace TL
open PySem PySem.Spec PyProof.Rows L2

/-! ### room -/
structure TRoom (k : Nat) (A : Around) : Prop where
  hd : A.handled = none
  gd : A.guards = some []
  dp : A.depth + k + 20 < recursionLimit
  un : A.units + 16 * k + 400 < cLine
theorem TRoom.mono {j k : Nat} {A : Around} (r : TRoom k A) (h : j ≤ k) : TRoom j A := ⟨r.hd, r.gd, by have := r.dp; omega, by have := r.un; omega⟩
theorem TRoom.room {k : Nat} {A : Around} (r : TRoom k A) : Room 4 A := ⟨r.hd, by have := r.dp; omega, by have := r.un; omega⟩
theorem TRoom.u64 {k : Nat} {A : Around} (r : TRoom k A) : A.units + 300 < cLine := by have := r.un; omega

/-! ### data that the library reads -/
mutual
def toP : D → Option PyData
  | .non => some .none
  | .bl b => some (.bool b)
  | .int i => some (.int i)
  | .str x => some (.str x)
  | .tup ds => (toPL ds).map .tuple
  | .lst ds => (toPL ds).map .list
  | .cls _ | .fn _ _ | .exc _ _ | .err _ _ | .lam _ => none
def toPL : List D → Option (List PyData)
  | [] => some []
  | d :: ds => match toP d, toPL ds with
    | some p, some ps => some (p :: ps)
    | _, _ => none
end
mutual
theorem Rb.dp {C : Cn} {H : Hp} : ∀ {d : D} {v : V} {p : PyData}, Rb C H d v → toP d = some p → Dp C.K H v p
  | .non, v, p, h, e => by
    have h : v = .non := by simpa only [Rb, Rp] using h
    simp only [toP] at e; cases e; subst h; exact .non
  | .bl b, v, p, h, e => by
    have h : v = .bl b := by simpa only [Rb, Rp] using h
    simp only [toP] at e; cases e; subst h; exact .bl b
  | .int i, v, p, h, e => by
    have h : v = .int i := by simpa only [Rb, Rp] using h
    simp only [toP] at e; cases e; subst h; exact .int i
  | .str x, v, p, h, e => by
    have h : v = .str x := by simpa only [Rb, Rp] using h
    simp only [toP] at e; cases e; subst h; exact .str x
  | .tup ds, v, p, h, e => by
    have h : Rp C H (.tup ds) v := h
    simp only [Rp] at h
    simp only [toP] at e
    obtain ⟨a, vs, rfl, s, r⟩ := h
    cases q : toPL ds with
    | none => rw [q] at e; cases e
    | some ps => rw [q] at e; cases e; exact .tup s (RpL.dp r q)
  | .lst ds, v, p, h, e => by
    obtain ⟨a, vs, rfl, s, r⟩ := h
    simp only [toP] at e
    cases q : toPL ds with
    | none => rw [q] at e; cases e
    | some ps => rw [q] at e; cases e; exact .lst s (RpL.dp r q)
  | .cls _, _, _, _, e | .fn _ _, _, _, _, e | .exc _ _, _, _, _, e | .err _ _, _, _, _, e | .lam _, _, _, _, e => by simp only [toP] at e; cases e
theorem RpL.dp {C : Cn} {H : Hp} : ∀ {ds : List D} {vs : List V} {ps : List PyData}, RpL C H ds vs → toPL ds = some ps → DpAll C.K H vs ps
  | [], vs, ps, h, e => by
    simp only [RpL] at h; simp only [toPL] at e
    cases e; subst h; exact .nil
  | d :: ds, vs, ps, h, e => by
    simp only [RpL] at h; simp only [toPL] at e
    obtain ⟨v, r, rfl, h1, h2⟩ := h
    cases q1 : toP d with
    | none => rw [q1] at e; cases e
    | some p =>
      cases q2 : toPL ds with
      | none => rw [q1, q2] at e; cases e
      | some ps' =>
        rw [q1, q2] at e; cases e
        exact .cons (Rb.dp h1.rb q1) (RpL.dp h2 q2)
end
/-! data whose texts are in order, of at most n levels -/
mutual
def ok : Nat → D → Bool
  | _, .non | _, .bl _ | _, .int _ => true
  | _, .str x => PyData.strOk x
  | 0, .tup _ | 0, .lst _ => false
  | n + 1, .tup ds => okL n ds
  | n + 1, .lst ds => okL n ds
  | _, .cls _ | _, .fn _ _ | _, .exc _ _ | _, .err _ _ | _, .lam _ => false
def okL : Nat → List D → Bool
  | _, [] => true
  | n, d :: ds => ok n d && okL n ds
end
/-! Python's == of data -/
mutual
def deq : D → D → Bool
  | .non, .non => true
  | .bl a, .bl b => a == b
  | .bl a, .int j => (if a then 1 else 0) == j
  | .int i, .bl b => i == (if b then 1 else 0)
  | .int i, .int j => i == j
  | .str x, .str y => x == y
  | .lst xs, .lst ys => deqL xs ys
  | .tup xs, .tup ys => deqL xs ys
  | _, _ => false
def deqL : List D → List D → Bool
  | [], [] => true
  | x :: xs, y :: ys => deq x y && deqL xs ys
  | _, _ => false
end
mutual
theorem ok_toP : ∀ {n : Nat} {d : D}, ok n d = true → ∃ p, toP d = some p ∧ p.canLay0 = true ∧ p.depth ≤ n
  | _, .non, _ => ⟨_, by simp only [toP]; rfl, by simp only [PyData.canLay0], by simp only [PyData.depth]; omega⟩
  | _, .bl b, _ => ⟨_, by simp only [toP]; rfl, by simp only [PyData.canLay0], by simp only [PyData.depth]; omega⟩
  | _, .int i, _ => ⟨_, by simp only [toP]; rfl, by simp only [PyData.canLay0], by simp only [PyData.depth]; omega⟩
  | _, .str x, h => ⟨_, by simp only [toP]; rfl, by simp only [ok] at h; simp only [PyData.canLay0]; exact h, by simp only [PyData.depth]; omega⟩
  | 0, .tup _, h | 0, .lst _, h => by simp [ok] at h
  | n + 1, .tup ds, h => by
    simp only [ok] at h
    obtain ⟨ps, e, c, d⟩ := okL_toPL h
    exact ⟨.tuple ps, by simp only [toP]; rw [e]; rfl, by simp only [PyData.canLay0]; exact c, by simp only [PyData.depth]; omega⟩
  | n + 1, .lst ds, h => by
    simp only [ok] at h
    obtain ⟨ps, e, c, d⟩ := okL_toPL h
    exact ⟨.list ps, by simp only [toP]; rw [e]; rfl, by simp only [PyData.canLay0]; exact c, by simp only [PyData.depth]; omega⟩
  | _, .cls _, h | _, .fn _ _, h | _, .exc _ _, h | _, .err _ _, h | _, .lam _, h => by simp [ok] at h
theorem okL_toPL : ∀ {n : Nat} {ds : List D}, okL n ds = true → ∃ ps, toPL ds = some ps ∧ PyData.canLayAll0 ps = true ∧ PyData.depthAll ps ≤ n
  | _, [], _ => ⟨[], by simp only [toPL], by simp only [PyData.canLayAll0], by simp only [PyData.depthAll]; omega⟩
  | n, d :: ds, h => by
    simp only [okL, Bool.and_eq_true] at h
    obtain ⟨p, e1, c1, d1⟩ := ok_toP h.1
    obtain ⟨ps, e2, c2, d2⟩ := okL_toPL h.2
    exact ⟨p :: ps, by simp only [toPL]; rw [e1, e2], by simp only [PyData.canLayAll0, Bool.and_eq_true]; exact ⟨c1, c2⟩, by simp only [PyData.depthAll]; omega⟩
end
mutual
theorem toP_deq : ∀ {a b : D} {p q : PyData}, toP a = some p → toP b = some q → PyData.eqv p q = deq a b
  | .non, b, p, q, e1, e2 | .bl _, b, p, q, e1, e2 | .int _, b, p, q, e1, e2 | .str _, b, p, q, e1, e2 => by
    simp only [toP] at e1; cases e1
    cases b with
    | tup ds => simp only [toP] at e2; cases h : toPL ds with
      | none => rw [h] at e2; cases e2
      | some ps => rw [h] at e2; cases e2; simp only [PyData.eqv, deq]
    | lst ds => simp only [toP] at e2; cases h : toPL ds with
      | none => rw [h] at e2; cases e2
      | some ps => rw [h] at e2; cases e2; simp only [PyData.eqv, deq]
    | _ => simp only [toP] at e2; cases e2 <;> simp only [PyData.eqv, deq]
  | .tup ds, b, p, q, e1, e2 => by
    simp only [toP] at e1
    cases h : toPL ds with
    | none => rw [h] at e1; cases e1
    | some ps =>
      rw [h] at e1; cases e1
      cases b with
      | tup es => simp only [toP] at e2; cases h2 : toPL es with
        | none => rw [h2] at e2; cases e2
        | some qs => rw [h2] at e2; cases e2; simp only [PyData.eqv, deq]; exact toPL_deq h h2
      | lst es => simp only [toP] at e2; cases h2 : toPL es with
        | none => rw [h2] at e2; cases e2
        | some qs => rw [h2] at e2; cases e2; simp only [PyData.eqv, deq]
      | _ => simp only [toP] at e2; cases e2 <;> simp only [PyData.eqv, deq]
  | .lst ds, b, p, q, e1, e2 => by
    simp only [toP] at e1
    cases h : toPL ds with
    | none => rw [h] at e1; cases e1
    | some ps =>
      rw [h] at e1; cases e1
      cases b with
      | tup es => simp only [toP] at e2; cases h2 : toPL es with
        | none => rw [h2] at e2; cases e2
        | some qs => rw [h2] at e2; cases e2; simp only [PyData.eqv, deq]
      | lst es => simp only [toP] at e2; cases h2 : toPL es with
        | none => rw [h2] at e2; cases e2
        | some qs => rw [h2] at e2; cases e2; simp only [PyData.eqv, deq]; exact toPL_deq h h2
      | _ => simp only [toP] at e2; cases e2 <;> simp only [PyData.eqv, deq]
  | .cls _, _, _, _, e, _ | .fn _ _, _, _, _, e, _ | .exc _ _, _, _, _, e, _ | .err _ _, _, _, _, e, _ | .lam _, _, _, _, e, _ => by simp only [toP] at e; cases e
theorem toPL_deq : ∀ {a b : List D} {p q : List PyData}, toPL a = some p → toPL b = some q → PyData.eqvAll p q = deqL a b
  | [], b, p, q, e1, e2 => by
    simp only [toPL] at e1; cases e1
    cases b with
    | nil => simp only [toPL] at e2; cases e2; simp only [PyData.eqvAll, deqL]
    | cons y ys =>
      simp only [toPL] at e2
      split at e2
      · cases e2; simp only [PyData.eqvAll, deqL]
      · cases e2
  | x :: xs, b, p, q, e1, e2 => by
    simp only [toPL] at e1
    split at e1
    · rename_i p1 ps h1 h2
      cases e1
      cases b with
      | nil => simp only [toPL] at e2; cases e2; simp only [PyData.eqvAll, deqL]
      | cons y ys =>
        simp only [toPL] at e2
        split at e2
        · rename_i q1 qs h3 h4
          cases e2
          simp only [PyData.eqvAll, deqL]
          rw [toP_deq h1 h3, toPL_deq h2 h4]
        · cases e2
    · cases e1
end

/-! ### operators by values -/
/-- what an operator gives: an f of the data -/
def rD (C : Cn) (f : D → D → Option D) : R2 := fun x y H Q => ∃ a b d, Rb C H a x ∧ Rb C H b y ∧ f a b = some d ∧ ∀ r H', Same H H' → Rp C H' d r → Q r H'
section
variable {X : Cx} {C : Cn} {a b : Expr} {ma mb : SS → O Hd} {pos : Pos}
def sOp (f : D → D → Option D) (ma mb : SS → O Hd) : SS → O D := fun σ => (ma σ).bind fun h1 σ1 => (mb σ1).bind fun h2 σ2 => match res σ2 h1, res σ2 h2 with
  | some x, some y => ofOpt (f x y) σ2
  | _, _ => .bad
theorem op_core {f : D → D → Option D} {W : WX} {τ : L2.St} {H : Hp} {Q : VK} (h : tE C W (sOp f ma mb) τ H Q) : tOp (rD C f) (tHd C W ma) (tHd C W mb) τ H Q := by
  refine (tG_bind (R := RH C) h).mono fun x H1 ⟨h1, r1, f1, q1⟩ => ?_
  refine (tG_bind (R := RH C) q1).mono fun y H2 ⟨h2, r2, f2, G, σ, sr, p⟩ => ?_
  dsimp only at p
  split at p
  · rename_i d1 d2 e1 e2
    refine ⟨d1, d2, ?_⟩
    cases e : f d1 d2 with
    | none => rw [e] at p; exact p.elim
    | some d =>
      rw [e] at p
      exact ⟨d, sr.res (r1.fx f2) e1, sr.res r2 e2, rfl, fun r H' s q => p r H' q (sr.same s) (.of_same s)⟩
  · exact p.elim
theorem me_op {op : Operator} {f : D → D → Option D} (ho : ∀ E, OpR (X.wish E) (binaryOp op) (rD C f)) (ha : MH X C a ma) (hb : MH X C b mb) : ME X C (.BinOp a op b pos) (sOp f ma mb) :=
  ⟨fun E W tk => (pe_op (ho E) (ha.pe E W tk) (hb.pe E W tk)).imp fun _ _ _ h => op_core h⟩
theorem me_cmp {op : CmpOp} {f : D → D → Option D} (ho : ∀ E, OpR (X.wish E) (compareOp op) (rD C f)) (ha : MH X C a ma) (hb : MH X C b mb) (hm : behindInMarks op b = false) : ME X C (.Compare a [op] [b] pos) (sOp f ma mb) :=
  ⟨fun E W tk => (pe_cmpR (ho E) (ha.pe E W tk) (hb.pe E W tk) hm).imp fun _ _ _ h => op_core h⟩
end

theorem Rp.i {C : Cn} {H : Hp} {i : Int} : Rp C H (.int i) (.int i) := by simp only [Rp]
theorem Rp.b {C : Cn} {H : Hp} {b : Bool} : Rp C H (.bl b) (.bl b) := by simp only [Rp]
theorem Rp.s {C : Cn} {H : Hp} {x : Str} : Rp C H (.str x) (.str x) := by simp only [Rp]
theorem Rp.n {C : Cn} {H : Hp} : Rp C H .non .non := by simp only [Rp]
theorem Rb.int {C : Cn} {H : Hp} {i : Int} {v : V} (h : Rb C H (.int i) v) : v = .int i := by simpa only [Rb, Rp] using h
theorem Rb.bl {C : Cn} {H : Hp} {i : Bool} {v : V} (h : Rb C H (.bl i) v) : v = .bl i := by simpa only [Rb, Rp] using h
theorem Rb.str {C : Cn} {H : Hp} {i : Str} {v : V} (h : Rb C H (.str i) v) : v = .str i := by simpa only [Rb, Rp] using h
theorem Rb.non {C : Cn} {H : Hp} {v : V} (h : Rb C H .non v) : v = .non := by simpa only [Rb, Rp] using h
theorem Rb.tup {C : Cn} {H : Hp} {ds : List D} {v : V} (h : Rb C H (.tup ds) v) : ∃ a vs, v = .ref a ∧ SqT C.K H a vs ∧ RpL C H ds vs := by simpa only [Rb, Rp] using h
theorem Rb.lst {C : Cn} {H : Hp} {ds : List D} {v : V} (h : Rb C H (.lst ds) v) : ∃ a vs, v = .ref a ∧ SqL C.K H a vs ∧ RpL C H ds vs := h
theorem rp_tup {C : Cn} {H : Hp} {a : Addr} {vs : List V} {ds : List D} (h : SqT C.K H a vs) (r : RpL C H ds vs) : Rp C H (.tup ds) (.ref a) := by simp only [Rp]; exact ⟨a, vs, rfl, h, r⟩
theorem RpL.nilL {C : Cn} {H : Hp} {ds : List D} (h : RpL C H ds []) : ds = [] := by
  cases ds with
  | nil => rfl
  | cons d ds => simp only [RpL] at h; obtain ⟨_, _, e, _⟩ := h; cases e
theorem RpL.nilR {C : Cn} {H : Hp} {vs : List V} (h : RpL C H [] vs) : vs = [] := by simpa only [RpL] using h

/-- list + list, whatever stands there -/
theorem op_catL {X : Cx} : OpR X (binaryOp .Add) (fun x y H Q => ∃ l b xs zs, x = .ref l ∧ y = .ref b ∧ SqL X.K H l xs ∧ SqL X.K H b zs ∧ xs.length + zs.length ≤ sizeLine ∧ ∀ p, H p = none → Q (.ref p) (upd H p (.lst (xs ++ zs)))) := by
  intro pins s σ H x y v u Q I rx ry h
  obtain ⟨l, b, xs, zs, rfl, rfl, hH, hB, hz, q⟩ := h
  cases rx
  cases ry
  obtain ⟨its, r, ⟨⟨c1, d1, da1, sl1⟩, n, e, hc, hd, hda⟩, _⟩ := I.list hH
  obtain ⟨its2, r2, ⟨⟨c2, d2, da2, sl2⟩, n2, e2, hc2, hd2, hda2⟩, _⟩ := I.list hB
  simp only at hc hd hda hc2 hd2 hda2
  subst hc hd hda hc2 hd2 hda2
  have hl := r.length
  have hl2 := r2.length
  refine concat_meets ⟨_, e, rfl⟩ ⟨_, e2, rfl⟩ noFill_list_add seq_list_add F.slot_list_add F.entry_list_add (F.args_list_add_2 _ _) (list_addW l b its.toArray its2.toArray n n2 none none sl1 sl2 (by rw [List.size_toArray, List.size_toArray]; omega)) ⟨e, e2, ?_⟩
  have ea : its.toArray ++ its2.toArray = (its ++ its2).toArray := by simp
  rw [ea]
  exact ⟨.ref _, _, I.lnew (t' := s.toks) (r.append r2) (by rw [List.length_append]; omega), rfl, q _ I.fresh⟩
end TL

set_option Elab.async false
set_option linter.all false
set_option maxRecDepth 100000
set_option maxHeartbeats 4000000
/-! TL4: the operators one by one. -/
namespace TL
open PySem PySem.Spec PyProof.Rows L2

def W64 (i : Int) : Bool := decide (-18446744073709551616 < i) && decide (i < 18446744073709551616)
def opAdd : D → D → Option D
  | .int i, .int j => some (.int (i + j))
  | .str x, .str y => if x.length + y.length ≤ LIM then some (.str (x ++ y)) else none
  | .tup xs, .tup ys => if xs.length + ys.length ≤ LIM then some (.tup (xs ++ ys)) else none
  | .lst xs, .lst ys => if xs.length + ys.length ≤ LIM then some (.lst (xs ++ ys)) else none
  | _, _ => none
def opSub : D → D → Option D
  | .int i, .int j => some (.int (i - j))
  | _, _ => none
def opMul : D → D → Option D
  | .int i, .int j => if W64 i || W64 j || decide (i.natAbs.log2 + j.natAbs.log2 < 1000000) then some (.int (i * j)) else none
  | .tup xs, .int k => if xs ≠ [] ∧ 2 ≤ k ∧ k ≤ 1000 ∧ xs.length ≤ 1000 then some (.tup (List.replicate k.toNat xs).flatten) else none
  | .str x, .int k => if -1000 ≤ k ∧ k ≤ 4000 ∧ x.length ≤ 4000 then some (.str (Txt.mul x k)) else none
  | _, _ => none
def opFdiv : D → D → Option D
  | .int i, .int j => if 0 < j ∧ j.natAbs.log2 < 9000 then some (.int (i / j)) else none
  | _, _ => none
def opMod : D → D → Option D
  | .int i, .int j => if 0 < j then some (.int (i % j)) else none
  | _, _ => none
def opPow : D → D → Option D
  | .int i, .int j => if 0 ≤ j ∧ j ≤ 1000000 ∧ (W64 i = true ∨ (i.natAbs.log2 + 1 : Int) * j ≤ 134217728) then some (.int (i ^ j.toNat)) else none
  | _, _ => none
theorem W64_iff {i : Int} (h : W64 i = true) : -(2 ^ 64) < i ∧ i < 2 ^ 64 := by
  simp only [W64, Bool.and_eq_true, decide_eq_true_eq] at h
  omega
section
variable {X : Cx} {C : Cn}
theorem op_addD (hK : X.K = C.K) : OpR X (binaryOp .Add) (rD C opAdd) := by
  intro p s τ H x y v u Q I rx ry ⟨a, b, d, ra, rb, e, k⟩
  unfold opAdd at e
  split at e
  · cases e
    have := ra.int; subst this
    have := rb.int; subst this
    exact op_add p s τ H _ _ v u Q I rx ry ⟨_, _, rfl, rfl, k _ H (.refl H) .i⟩
  · split at e
    · rename_i hl
      cases e
      have := ra.str; subst this
      have := rb.str; subst this
      exact op_add_str p s τ H _ _ v u Q I rx ry ⟨_, _, rfl, rfl, by rw [LIM_eq]; exact hl, k _ H (.refl H) .s⟩
    · cases e
  · rename_i xs ys
    split at e
    · rename_i hl
      cases e
      obtain ⟨a, vs, rfl, s1, r1⟩ := ra.tup
      obtain ⟨b, ws, rfl, s2, r2⟩ := rb.tup
      refine op_catA p s τ H _ _ v u Q I rx ry ⟨a, b, vs, ws, rfl, rfl, hK ▸ s1, hK ▸ s2, by rw [LIM_eq, r1.length, r2.length]; exact hl, fun z => ?_, fun _ z => ?_, fun _ _ q hq => ?_⟩
      · subst z
        have := r1.nilL; subst this
        exact k _ H (.refl H) (rp_tup s2 r2)
      · subst z
        have := r2.nilL; subst this
        rw [List.append_nil] at k
        exact k _ H (.refl H) (rp_tup s1 r1)
      · have sm : Same H (upd H q (.tup (vs ++ ws))) := same_new hq
        exact k _ _ sm (rp_tup (SqT.of upd_same) ((r1.append r2).fx (.of_same sm)))
    · cases e
  · rename_i xs ys
    split at e
    · rename_i hl
      cases e
      obtain ⟨a, vs, rfl, s1, r1⟩ := ra.lst
      obtain ⟨b, ws, rfl, s2, r2⟩ := rb.lst
      refine thn (op_catL p s τ H _ _ v u (FzQ Q) I rx ry ⟨a, b, vs, ws, rfl, rfl, hK ▸ s1, hK ▸ s2, by rw [LIM_eq, r1.length, r2.length]; exact hl, fun q hq => ?_⟩) fun _ _ z => EP.fz z
      have sm : Same H (upd H q (.lst (vs ++ ws))) := same_new hq
      refine .inr ⟨q, _, rfl, upd_same, fun o => ?_⟩
      have sm2 : Same H (upd (upd H q (.lst (vs ++ ws))) q (.frz o (.lst (vs ++ ws)))) := by rw [upd_upd]; exact same_new hq
      exact k _ _ sm2 (rp_frz upd_same ((r1.append r2).fx (.of_same sm)))
    · cases e
  · cases e
theorem op_subD : OpR X (binaryOp .Sub) (rD C opSub) := by
  intro p s τ H x y v u Q I rx ry ⟨a, b, d, ra, rb, e, k⟩
  unfold opSub at e
  split at e
  · cases e
    have := ra.int; subst this
    have := rb.int; subst this
    exact op_sub p s τ H _ _ v u Q I rx ry ⟨_, _, rfl, rfl, k _ H (.refl H) .i⟩
  · cases e
theorem op_mulD (hK : X.K = C.K) : OpR X (binaryOp .Mult) (rD C opMul) := by
  intro p s τ H x y v u Q I rx ry ⟨a, b, d, ra, rb, e, k⟩
  unfold opMul at e
  split at e
  · split at e
    · rename_i i j hc
      cases e
      have := ra.int; subst this
      have := rb.int; subst this
      simp only [Bool.or_eq_true, decide_eq_true_eq] at hc
      rcases hc with (hc | hc) | hc
      · exact op_mul p s τ H _ _ v u Q I rx ry ⟨_, _, rfl, rfl, .inl (W64_iff hc), k _ H (.refl H) .i⟩
      · exact op_mul p s τ H _ _ v u Q I rx ry ⟨_, _, rfl, rfl, .inr (W64_iff hc), k _ H (.refl H) .i⟩
      · exact op_mulW p s τ H _ _ v u Q I rx ry ⟨_, _, rfl, rfl, hc, k _ H (.refl H) .i⟩
    · cases e
  · rename_i xs j
    split at e
    · rename_i hc
      cases e
      obtain ⟨a, vs, rfl, s1, r1⟩ := ra.tup
      have := rb.int; subst this
      have hrep : ∀ n, RpL C H (List.replicate n xs).flatten (List.replicate n vs).flatten := fun n => by
        induction n with
        | zero => exact .nil
        | succ n ih => simp only [List.replicate_succ, List.flatten_cons]; exact r1.append ih
      refine op_repT p s τ H _ _ v u Q I rx ry ⟨a, j, vs, rfl, rfl, hK ▸ s1, fun z => hc.1 ?_, hc.2.1, hc.2.2.1, by rw [r1.length]; exact hc.2.2.2, fun q hq => ?_⟩
      · subst z; exact r1.nilL
      · have sm : Same H (upd H q (.tup (List.replicate j.toNat vs).flatten)) := same_new hq
        exact k _ _ sm (rp_tup (SqT.of upd_same) ((hrep _).fx (.of_same sm)))
    · cases e
  · rename_i x j
    split at e
    · rename_i hc
      cases e
      have := ra.str; subst this
      have := rb.int; subst this
      obtain ⟨t1, rfl⟩ := rx
      obtain ⟨t2, rfl⟩ := ry
      refine PySem.SB.mul ⟨?_, fun h1 _ => ?_, fun h1 _ => ?_⟩ fun t' kk => ⟨.str (Txt.mul x j), H, I.tok kk, ⟨t', rfl⟩, k _ H (.refl H) .s⟩
      · simp only [Bool.or_eq_false_iff, decide_eq_false_iff_not]
        omega
      · have : (4000 : Int) ≤ (2 ^ 63 - 1) / j := (Int.le_ediv_iff_mul_le (by omega)).mpr (by omega)
        have := hc.2.2
        omega
      · unfold PySem.Builtin.Str.tooLong
        rw [decide_eq_false_iff_not, LIM_eq]
        have h2 : j.toNat ≤ 4000 := by omega
        have := Nat.mul_le_mul hc.2.2 h2
        unfold LIM
        omega
    · cases e
  · cases e
theorem op_fdivD : OpR X (binaryOp .FloorDiv) (rD C opFdiv) := by
  intro p s τ H x y v u Q I rx ry ⟨a, b, d, ra, rb, e, k⟩
  unfold opFdiv at e
  split at e
  · split at e
    · rename_i hc
      cases e
      have := ra.int; subst this
      have := rb.int; subst this
      exact op_fdivW p s τ H _ _ v u Q I rx ry ⟨_, _, rfl, rfl, hc, k _ H (.refl H) .i⟩
    · cases e
  · cases e
theorem op_modD : OpR X (binaryOp .Mod) (rD C opMod) := by
  intro p s τ H x y v u Q I rx ry ⟨a, b, d, ra, rb, e, k⟩
  unfold opMod at e
  split at e
  · split at e
    · rename_i hc
      cases e
      have := ra.int; subst this
      have := rb.int; subst this
      exact op_mod p s τ H _ _ v u Q I rx ry ⟨_, _, rfl, rfl, hc, k _ H (.refl H) .i⟩
    · cases e
  · cases e
theorem op_powD : OpR X (binaryOp .Pow) (rD C opPow) := by
  intro p s τ H x y v u Q I rx ry ⟨a, b, d, ra, rb, e, k⟩
  unfold opPow at e
  split at e
  · rename_i i j
    split at e
    · rename_i hc
      cases e
      have := ra.int; subst this
      have := rb.int; subst this
      rcases hc.2.2 with h6 | h6
      · have h64 := W64_iff h6
        exact op_pow p s τ H _ _ v u Q I rx ry ⟨_, _, rfl, rfl, ⟨hc.1, hc.2.1, by omega⟩, k _ H (.refl H) .i⟩
      · obtain ⟨t1, rfl⟩ := rx
        obtain ⟨t2, rfl⟩ := ry
        refine PyProof.Rows.pow_int hc.1 ?_ ⟨.int (i ^ j.toNat), H, I.tok _, ⟨_, rfl⟩, k _ H (.refl H) .i⟩
        have b : (Builtin.Int.intBits i : Int) ≤ i.natAbs.log2 + 1 := by
          unfold Builtin.Int.intBits
          split <;> omega
        have := Int.mul_le_mul_of_nonneg_right b hc.1
        have e27 : (2 : Int) ^ 27 = 134217728 := by decide
        omega
    · cases e
  · cases e

/-! ### comparisons -/
def cEq (a b : D) : Option D := if ok 200 a && ok 200 b then some (.bl (deq a b)) else none
def cNe (a b : D) : Option D := if ok 200 a && ok 200 b then some (.bl (!deq a b)) else none
theorem op_eqT (hK : X.K = C.K) {n : Nat} (hr : TRoom n X.A) : OpR X (compareOp .Eq) (rD C cEq) := by
  intro p s τ H x y v u Q I rx ry ⟨a, b, d, ra, rb, e, k⟩
  unfold cEq at e
  split at e
  · rename_i hc
    rw [Bool.and_eq_true] at hc
    cases e
    obtain ⟨pa, ea, ca, da⟩ := ok_toP hc.1
    obtain ⟨pb, eb, cb, db⟩ := ok_toP hc.2
    obtain ⟨as, r1⟩ := Dp.reads I pa x v (hK ▸ ra.dp ea) rx
    obtain ⟨bs, r2⟩ := Dp.reads I pb y u (hK ▸ rb.dp eb) ry
    have hu := hr.u64
    refine SeqAt.compareEq_reads r1 r2 ca cb (by omega) ⟨.bl _, H, I, rfl, ?_⟩
    rw [toP_deq ea eb]
    exact k _ H (.refl H) .b
  · cases e
theorem op_neT (hK : X.K = C.K) {n : Nat} (hr : TRoom n X.A) : OpR X (compareOp .NotEq) (rD C cNe) := by
  intro p s τ H x y v u Q I rx ry ⟨a, b, d, ra, rb, e, k⟩
  unfold cNe at e
  split at e
  · rename_i hc
    rw [Bool.and_eq_true] at hc
    cases e
    obtain ⟨pa, ea, ca, da⟩ := ok_toP hc.1
    obtain ⟨pb, eb, cb, db⟩ := ok_toP hc.2
    obtain ⟨as, r1⟩ := Dp.reads I pa x v (hK ▸ ra.dp ea) rx
    obtain ⟨bs, r2⟩ := Dp.reads I pb y u (hK ▸ rb.dp eb) ry
    have hu := hr.u64
    refine SeqAt.compareNe_reads r1 r2 ca cb (by omega) ⟨.bl _, H, I, rfl, ?_⟩
    rw [toP_deq ea eb]
    exact k _ H (.refl H) .b
  · cases e
/-- order of ints, of texts -/
def cLt : D → D → Option D
  | .int i, .int j => some (.bl (decide (i < j)))
  | .str x, .str y => some (.bl (decide (x.cps.toList < y.cps.toList)))
  | _, _ => none
def cLe : D → D → Option D
  | .int i, .int j => some (.bl (decide (i ≤ j)))
  | .str x, .str y => some (.bl (!decide (y.cps.toList < x.cps.toList)))
  | _, _ => none
def cGt : D → D → Option D
  | .int i, .int j => some (.bl (decide (j < i)))
  | .str x, .str y => some (.bl (decide (y.cps.toList < x.cps.toList)))
  | _, _ => none
def cGe : D → D → Option D
  | .int i, .int j => some (.bl (decide (j ≤ i)))
  | .str x, .str y => some (.bl (!decide (x.cps.toList < y.cps.toList)))
  | _, _ => none
theorem op_ltD : OpR X (compareOp .Lt) (rD C cLt) := by
  intro p s τ H x y v u Q I rx ry ⟨a, b, d, ra, rb, e, k⟩
  unfold cLt at e
  split at e
  · cases e; have := ra.int; subst this; have := rb.int; subst this
    exact op_lt p s τ H _ _ v u Q I rx ry ⟨_, _, rfl, rfl, k _ H (.refl H) .b⟩
  · cases e; have := ra.str; subst this; have := rb.str; subst this
    exact op_lt_str p s τ H _ _ v u Q I rx ry ⟨_, _, rfl, rfl, k _ H (.refl H) .b⟩
  · cases e
theorem op_leD : OpR X (compareOp .LtE) (rD C cLe) := by
  intro p s τ H x y v u Q I rx ry ⟨a, b, d, ra, rb, e, k⟩
  unfold cLe at e
  split at e
  · cases e; have := ra.int; subst this; have := rb.int; subst this
    exact op_le p s τ H _ _ v u Q I rx ry ⟨_, _, rfl, rfl, k _ H (.refl H) .b⟩
  · cases e; have := ra.str; subst this; have := rb.str; subst this
    exact op_le_str p s τ H _ _ v u Q I rx ry ⟨_, _, rfl, rfl, k _ H (.refl H) .b⟩
  · cases e
theorem op_gtD : OpR X (compareOp .Gt) (rD C cGt) := by
  intro p s τ H x y v u Q I rx ry ⟨a, b, d, ra, rb, e, k⟩
  unfold cGt at e
  split at e
  · cases e; have := ra.int; subst this; have := rb.int; subst this
    exact op_gt p s τ H _ _ v u Q I rx ry ⟨_, _, rfl, rfl, k _ H (.refl H) .b⟩
  · cases e; have := ra.str; subst this; have := rb.str; subst this
    exact op_gt_str p s τ H _ _ v u Q I rx ry ⟨_, _, rfl, rfl, k _ H (.refl H) .b⟩
  · cases e
theorem op_geD : OpR X (compareOp .GtE) (rD C cGe) := by
  intro p s τ H x y v u Q I rx ry ⟨a, b, d, ra, rb, e, k⟩
  unfold cGe at e
  split at e
  · cases e; have := ra.int; subst this; have := rb.int; subst this
    exact op_ge p s τ H _ _ v u Q I rx ry ⟨_, _, rfl, rfl, k _ H (.refl H) .b⟩
  · cases e; have := ra.str; subst this; have := rb.str; subst this
    exact op_ge_str p s τ H _ _ v u Q I rx ry ⟨_, _, rfl, rfl, k _ H (.refl H) .b⟩
  · cases e
/-- is None -/
def isNon : D → Bool
  | .non => true
  | _ => false
theorem Rb.nonq {H : Hp} {d : D} {v : V} (h : Rb C H d v) : decide (v = .non) = isNon d := by
  cases d with
  | non => rw [h.non]; rfl
  | bl b => rw [h.bl]; rfl
  | int i => rw [h.int]; rfl
  | str x => rw [h.str]; rfl
  | tup ds => obtain ⟨a, vs, rfl, _⟩ := h.tup; rfl
  | lst ds => obtain ⟨a, vs, rfl, _⟩ := h.lst; rfl
  | cls i => have h : v = .ref (C.ca i) := by simpa only [Rb, Rp] using h
             subst h; rfl
  | fn i cap =>
    have h : Rp C H (.fn i cap) v := h
    simp only [Rp] at h
    obtain ⟨_, rfl⟩ := h; rfl
  | exc c d =>
    have h : Rp C H (.exc c d) v := h
    simp only [Rp] at h
    obtain ⟨a, _, _, _, rfl, _⟩ := h; rfl
  | err c d =>
    have h : Rp C H (.err c d) v := h
    simp only [Rp] at h
    obtain ⟨a, _, _, _, _, rfl, _⟩ := h; rfl
  | lam cap =>
    have h : Rp C H (.lam cap) v := h
    simp only [Rp] at h
    obtain ⟨rfl, _⟩ := h; rfl
def cIs (a b : D) : Option D := match b with
  | .non => some (.bl (isNon a))
  | .bl q => match a with | .bl p => some (.bl (decide (p = q))) | _ => none
  | _ => none
def cIsNot (a b : D) : Option D := match b with
  | .non => some (.bl (!isNon a))
  | .bl q => match a with | .bl p => some (.bl (!decide (p = q))) | _ => none
  | _ => none
theorem op_isD : OpR X (compareOp .Is) (rD C cIs) := by
  intro p s τ H x y v u Q I rx ry ⟨a, b, d, ra, rb, e, k⟩
  unfold cIs at e
  split at e
  · cases e; have := rb.non; subst this
    refine op_isN p s τ H _ _ v u Q I rx ry ⟨rfl, ?_⟩
    rw [ra.nonq]
    exact k _ H (.refl H) .b
  · split at e
    · cases e; have := rb.bl; subst this; have := ra.bl; subst this
      exact op_is_bl p s τ H _ _ v u Q I rx ry ⟨_, _, rfl, rfl, k _ H (.refl H) .b⟩
    · cases e
  · cases e
theorem op_isNotD : OpR X (compareOp .IsNot) (rD C cIsNot) := by
  intro p s τ H x y v u Q I rx ry ⟨a, b, d, ra, rb, e, k⟩
  unfold cIsNot at e
  split at e
  · cases e; have := rb.non; subst this
    refine op_notN p s τ H _ _ v u Q I rx ry ⟨rfl, ?_⟩
    rw [ra.nonq]
    exact k _ H (.refl H) .b
  · split at e
    · cases e; have := rb.bl; subst this; have := ra.bl; subst this
      exact op_isnot_bl p s τ H _ _ v u Q I rx ry ⟨_, _, rfl, rfl, k _ H (.refl H) .b⟩
    · cases e
  · cases e
end
end TL

set_option Elab.async false
set_option linter.all false
set_option maxRecDepth 100000
set_option maxHeartbeats 4000000
/-! TL5: in, truth, tests, subscripts, slices, built-in calls. -/
namespace TL
open PySem PySem.Spec PyProof.Rows L2

/-! ### in -/
def hasSub (j i : Str) : Bool := !(Builtin.Str.occurrences j i 0 j.length 1).isEmpty
def inD (a b : D) : Option Bool := match b with
  | .str y => match a with | .str x => some (hasSub y x) | _ => none
  | .tup ds => if ok 200 a && okL 200 ds then some (ds.any fun z => deq z a) else none
  | .lst ds => if ok 200 a && okL 200 ds then some (ds.any fun z => deq z a) else none
  | _ => none
def cIn (a b : D) : Option D := (inD a b).map .bl
def cNotIn (a b : D) : Option D := (inD a b).map fun k => .bl (!k)
theorem any_toPL {d : D} {p : PyData} (e : toP d = some p) : ∀ {ds : List D} {ps : List PyData}, toPL ds = some ps → (ps.any fun z => PyData.eqv z p) = ds.any fun z => deq z d
  | [], ps, h => by simp only [toPL] at h; cases h; rfl
  | x :: xs, ps, h => by
    simp only [toPL] at h
    split at h
    · rename_i q qs h1 h2
      cases h
      rw [List.any_cons, List.any_cons, toP_deq h1 e, any_toPL e h2]
    · cases h
section
variable {X : Cx} {C : Cn}
theorem op_inT (hK : X.K = C.K) {n : Nat} (hr : TRoom n X.A) : OpR X (compareOp .In) (rD C cIn) := by
  intro p s τ H x y v u Q I rx ry ⟨a, b, d, ra, rb, e, k⟩
  have hu := hr.u64
  unfold cIn inD at e
  split at e
  · split at e
    · cases e
      have := ra.str; subst this
      have := rb.str; subst this
      exact op_in_str p s τ H _ _ v u Q I rx ry ⟨_, _, rfl, rfl, k _ H (.refl H) .b⟩
    · cases e
  · rename_i ds
    split at e
    · rename_i hc
      rw [Bool.and_eq_true] at hc
      cases e
      obtain ⟨pa, ea, ca, da⟩ := ok_toP hc.1
      obtain ⟨ps, eb, cb, db⟩ := okL_toPL hc.2
      obtain ⟨as, r1⟩ := Dp.reads I pa x v (hK ▸ ra.dp ea) rx
      obtain ⟨bs, r2⟩ := Dp.reads I (.tuple ps) y u (hK ▸ rb.dp (by simp only [toP]; rw [eb]; rfl)) ry
      refine SeqAt.in_tuple_reads r2 r1 cb ca (by omega) ⟨.bl _, H, I, rfl, ?_⟩
      rw [any_toPL ea eb]
      exact k _ H (.refl H) .b
    · cases e
  · rename_i ds
    split at e
    · rename_i hc
      rw [Bool.and_eq_true] at hc
      cases e
      obtain ⟨pa, ea, ca, da⟩ := ok_toP hc.1
      obtain ⟨ps, eb, cb, db⟩ := okL_toPL hc.2
      obtain ⟨as, r1⟩ := Dp.reads I pa x v (hK ▸ ra.dp ea) rx
      obtain ⟨bs, r2⟩ := Dp.reads I (.list ps) y u (hK ▸ rb.dp (by simp only [toP]; rw [eb]; rfl)) ry
      refine SeqAt.in_list_reads r2 r1 cb ca (by omega) ⟨.bl _, H, I, rfl, ?_⟩
      rw [any_toPL ea eb]
      exact k _ H (.refl H) .b
    · cases e
  · cases e
theorem op_notInT (hK : X.K = C.K) {n : Nat} (hr : TRoom n X.A) : OpR X (compareOp .NotIn) (rD C cNotIn) := by
  intro p s τ H x y v u Q I rx ry ⟨a, b, d, ra, rb, e, k⟩
  have hu := hr.u64
  unfold cNotIn inD at e
  split at e
  · split at e
    · cases e
      have := ra.str; subst this
      have := rb.str; subst this
      exact op_notin_str p s τ H _ _ v u Q I rx ry ⟨_, _, rfl, rfl, k _ H (.refl H) .b⟩
    · cases e
  · rename_i ds
    split at e
    · rename_i hc
      rw [Bool.and_eq_true] at hc
      cases e
      obtain ⟨pa, ea, ca, da⟩ := ok_toP hc.1
      obtain ⟨ps, eb, cb, db⟩ := okL_toPL hc.2
      obtain ⟨as, r1⟩ := Dp.reads I pa x v (hK ▸ ra.dp ea) rx
      obtain ⟨bs, r2⟩ := Dp.reads I (.tuple ps) y u (hK ▸ rb.dp (by simp only [toP]; rw [eb]; rfl)) ry
      refine SeqAt.notIn_tuple_reads r2 r1 cb ca (by omega) ⟨.bl _, H, I, rfl, ?_⟩
      rw [any_toPL ea eb]
      exact k _ H (.refl H) .b
    · cases e
  · rename_i ds
    split at e
    · rename_i hc
      rw [Bool.and_eq_true] at hc
      cases e
      obtain ⟨pa, ea, ca, da⟩ := ok_toP hc.1
      obtain ⟨ps, eb, cb, db⟩ := okL_toPL hc.2
      obtain ⟨as, r1⟩ := Dp.reads I pa x v (hK ▸ ra.dp ea) rx
      obtain ⟨bs, r2⟩ := Dp.reads I (.list ps) y u (hK ▸ rb.dp (by simp only [toP]; rw [eb]; rfl)) ry
      refine SeqAt.notIn_list_reads r2 r1 cb ca (by omega) ⟨.bl _, H, I, rfl, ?_⟩
      rw [any_toPL ea eb]
      exact k _ H (.refl H) .b
    · cases e
  · cases e
end

/-! ### truth -/
def tru : D → Option Bool
  | .non => some false
  | .bl b => some b
  | .int i => some (i != 0)
  | .str x => if x.length ≤ LIM then some ((x.length : Int) != 0) else none
  | .tup ds => some (!ds.isEmpty)
  | .lst ds => some (!ds.isEmpty)
  | _ => none
theorem empL {C : Cn} {H : Hp} {ds : List D} {vs : List V} (h : RpL C H ds vs) : (!vs.isEmpty) = !ds.isEmpty := by
  have := h.length
  cases ds <;> cases vs <;> simp_all
theorem Rb.tru {C : Cn} {H : Hp} {d : D} {v : V} {k : Bool} (h : Rb C H d v) (e : tru d = some k) : TruV C.K v H k := by
  unfold TL.tru at e
  split at e
  · cases e; have := h.non; subst this; rfl
  · cases e; have := h.bl; subst this; rfl
  · cases e; have := h.int; subst this; rfl
  · split at e
    · rename_i hl; cases e; have := h.str; subst this; exact ⟨by rw [LIM_eq]; exact hl, rfl⟩
    · cases e
  · cases e; obtain ⟨a, vs, rfl, s, r⟩ := h.tup; exact .inr (.inl ⟨vs, s, (empL r).symm⟩)
  · cases e; obtain ⟨a, vs, rfl, s, r⟩ := h.lst; exact .inl ⟨vs, s, (empL r).symm⟩
  · cases e
section
variable {X : Cx} {C : Cn} {a b c : Expr} {rest : List Expr} {pos : Pos}
def sTru (m : SS → O Hd) : SS → O Bool := fun σ => (m σ).bind fun h σ1 => match res σ1 h with
  | some d => ofOpt (tru d) σ1
  | none => .bad
theorem tru_core {m : SS → O Hd} {W : WX} {τ : L2.St} {H : Hp} {Q : Bool → Hp → Prop} (h : tT C W (sTru m) τ H Q) : tHd C W m τ H fun x H1 => ∃ k, TruV C.K x H1 k ∧ Q k H1 := by
  refine (tG_bind (R := RH C) h).mono fun x H1 ⟨h1, r1, f1, G, σ, sr, p⟩ => ?_
  dsimp only at p
  split at p
  · rename_i d e
    cases q : tru d with
    | none => rw [q] at p; exact p.elim
    | some k => rw [q] at p; exact ⟨k, (sr.res r1 e).tru q, p k H1 rfl sr (.refl _)⟩
  · exact p.elim
theorem mt_tru {m : SS → O Hd} (hK : X.K = C.K) (h : MH X C a m) (he : ∀ whole, isTrue a X.env whole = (do let v ← whole; standAt a.pos; holding [v] (truthy v)) := by intro _; rfl) : MT X C a (sTru m) :=
  ⟨fun E W tk => (pt_truth (h.pe E W tk) he).imp fun τ H Q q => by rw [show (X.wish E).K = C.K from hK]; exact tru_core q⟩
def sB (m : SS → O D) : SS → O Bool := fun σ => (m σ).bind fun d σ1 => match d with
  | .bl k => .ok k σ1
  | _ => .bad
theorem mt_cmp {op : CmpOp} {f : D → D → Option D} {ma mb : SS → O Hd} (ho : ∀ E, OpR (X.wish E) (compareOp op) (rD C f)) (ha : MH X C a ma) (hb : MH X C b mb) (hm : behindInMarks op b = false) : MT X C (.Compare a [op] [b] pos) (sB (sOp f ma mb)) := by
  refine ⟨fun E W tk => (pt_cmpR (ho E) (ha.pe E W tk) (hb.pe E W tk) hm).imp fun τ H Q h => ?_⟩
  refine op_core ((tG_bind (R := fun _ => Rp C) h).mono fun x H1 ⟨d, r1, f1, G, σ, sr, p⟩ => ?_)
  dsimp only at p
  split at p
  · exact ⟨_, r1.rb.bl, p _ H1 rfl sr (.refl _)⟩
  · exact p.elim
/-- and, or, not -/
def sAndT (m n : SS → O Bool) : SS → O Bool := fun σ => (m σ).bind fun k σ1 => if k = true then n σ1 else .ok false σ1
def sOrT (m n : SS → O Bool) : SS → O Bool := fun σ => (m σ).bind fun k σ1 => if k = true then .ok true σ1 else n σ1
def sNotT (m : SS → O Bool) : SS → O Bool := fun σ => (m σ).bind fun k σ1 => .ok (!k) σ1
theorem MW.mt {e : Expr} {m : SS → O Bool} (h : MW X C e m) : MT X C e m := ⟨fun E W tk => (h.pw E W tk).pt⟩
theorem mw_and1 {m : SS → O Bool} (h : MT X C a m) : MW X C (.BoolOp .And [a] pos) m := ⟨fun E W tk => pw_and1 (h.pt E W tk)⟩
theorem mw_or1 {m : SS → O Bool} (h : MT X C a m) : MW X C (.BoolOp .Or [a] pos) m := ⟨fun E W tk => pw_or1 (h.pt E W tk)⟩
theorem mw_and {m n : SS → O Bool} (h : MT X C a m) (g : MW X C (.BoolOp .And (b :: rest) pos) n) : MW X C (.BoolOp .And (a :: b :: rest) pos) (sAndT m n) := by
  refine ⟨fun E W tk => (pw_and (h.pt E W tk) (g.pw E W tk)).imp fun τ H Q q => ?_⟩
  refine (tG_bind (R := fun _ _ b b' => b' = b) q).mono fun k H1 ⟨k', r, f1, h1⟩ => ?_
  subst r
  cases k with
  | true => exact iteT h1
  | false => exact iteF (tG_ret h1 _ rfl)
theorem mw_or {m n : SS → O Bool} (h : MT X C a m) (g : MW X C (.BoolOp .Or (b :: rest) pos) n) : MW X C (.BoolOp .Or (a :: b :: rest) pos) (sOrT m n) := by
  refine ⟨fun E W tk => (pw_or (h.pt E W tk) (g.pw E W tk)).imp fun τ H Q q => ?_⟩
  refine (tG_bind (R := fun _ _ b b' => b' = b) q).mono fun k H1 ⟨k', r, f1, h1⟩ => ?_
  subst r
  cases k with
  | true => exact iteT (tG_ret h1 _ rfl)
  | false => exact iteF h1
theorem mt_not {m : SS → O Bool} (h : MT X C a m) : MT X C (.UnaryOp .Not a pos) (sNotT m) := by
  refine ⟨fun E W tk => (pt_not (h.pt E W tk)).imp fun τ H Q q => ?_⟩
  refine (tG_bind (R := fun _ _ b b' => b' = b) q).mono fun k H1 ⟨k', r, f1, h1⟩ => ?_
  subst r
  exact tG_ret h1 _ rfl
/-- .. as values -/
def sAnd (m n : SS → O D) : SS → O D := fun σ => (m σ).bind fun d σ1 => match tru d with
  | some true => n σ1
  | some false => .ok d σ1
  | none => .bad
def sOr (m n : SS → O D) : SS → O D := fun σ => (m σ).bind fun d σ1 => match tru d with
  | some true => .ok d σ1
  | some false => n σ1
  | none => .bad
theorem me_one {op} {m : SS → O D} (h : ME X C a m) : ME X C (.BoolOp op [a] pos) m := ⟨fun E W tk => pe_one (h.pe E W tk)⟩
theorem me_and {m n : SS → O D} (hK : X.K = C.K) (h : ME X C a m) (g : ME X C (.BoolOp .And (b :: rest) pos) n) : ME X C (.BoolOp .And (a :: b :: rest) pos) (sAnd m n) := by
  refine ⟨fun E W tk => (pe_andT (h.pe E W tk) (g.pe E W tk)).imp fun τ H Q q => ?_⟩
  refine (tG_bind (R := fun _ => Rp C) q).mono fun x H1 ⟨d, r, f1, G, σ, sr, p⟩ => ?_
  dsimp only at p
  split at p
  · rename_i e
    exact ⟨true, by rw [show (X.wish E).K = C.K from hK]; exact r.rb.tru e, iteT ⟨G, σ, sr, p⟩⟩
  · rename_i e
    exact ⟨false, by rw [show (X.wish E).K = C.K from hK]; exact r.rb.tru e, iteF (p x H1 r sr (.refl _))⟩
  · exact p.elim
theorem me_or {m n : SS → O D} (hK : X.K = C.K) (h : ME X C a m) (g : ME X C (.BoolOp .Or (b :: rest) pos) n) : ME X C (.BoolOp .Or (a :: b :: rest) pos) (sOr m n) := by
  refine ⟨fun E W tk => (pe_orT (h.pe E W tk) (g.pe E W tk)).imp fun τ H Q q => ?_⟩
  refine (tG_bind (R := fun _ => Rp C) q).mono fun x H1 ⟨d, r, f1, G, σ, sr, p⟩ => ?_
  dsimp only at p
  split at p
  · rename_i e
    exact ⟨true, by rw [show (X.wish E).K = C.K from hK]; exact r.rb.tru e, iteT (p x H1 r sr (.refl _))⟩
  · rename_i e
    exact ⟨false, by rw [show (X.wish E).K = C.K from hK]; exact r.rb.tru e, iteF ⟨G, σ, sr, p⟩⟩
  · exact p.elim
def sNot (m : SS → O Hd) : SS → O D := fun σ => (sTru m σ).bind fun k σ1 => .ok (.bl (!k)) σ1
theorem me_not {m : SS → O Hd} (hK : X.K = C.K) (h : MH X C a m) : ME X C (.UnaryOp .Not a pos) (sNot m) := by
  refine ⟨fun E W tk => (pe_notT (h.pe E W tk)).imp fun τ H Q q => ?_⟩
  rw [show (X.wish E).K = C.K from hK]
  refine tru_core (Q := fun k H1 => Q (.bl (!k)) H1) ((tG_bind (R := fun _ _ b b' => b' = b) q).mono fun k H1 ⟨k', r, f1, h1⟩ => ?_)
  subst r
  exact tG_ret h1 _ .b
def sIf {β : Type} (c : SS → O Bool) (m n : SS → O β) : SS → O β := fun σ => (c σ).bind fun k σ1 => if k = true then m σ1 else n σ1
theorem me_ifExp {mc : SS → O Bool} {m n : SS → O D} (hc : MT X C c mc) (ha : ME X C a m) (hb : ME X C b n) : ME X C (.IfExp c a b pos) (sIf mc m n) := by
  refine ⟨fun E W tk => (pe_ifExp (hc.pt E W tk) (ha.pe E W tk) (hb.pe E W tk)).imp fun τ H Q q => ?_⟩
  refine (tG_bind (R := fun _ _ b b' => b' = b) q).mono fun k H1 ⟨k', r, f1, h1⟩ => ?_
  subst r
  cases k with
  | true => exact iteT h1
  | false => exact iteF h1
/-- a op b op' c -/
def sChain (f g : D → D → Option D) (ma mb mc : SS → O Hd) : SS → O D := fun σ => (ma σ).bind fun h1 σ1 => (mb σ1).bind fun h2 σ2 => match res σ2 h1, res σ2 h2 with
  | some x, some y => match f x y with
    | some (.bl true) => (mc σ2).bind fun h3 σ3 => match res σ3 h2, res σ3 h3 with
      | some y', some z => ofOpt (g y' z) σ3
      | _, _ => .bad
    | some (.bl false) => .ok (.bl false) σ2
    | _ => .bad
  | _, _ => .bad
end

/-! ### subscripts -/
def opIx : D → D → Option D
  | .tup ds, .int i => atI ds i
  | .lst ds, .int i => atI ds i
  | .str z, .int i => if z.length ≤ LIM then (atI z.cps.toList i).map fun c => .str ⟨#[c]⟩ else none
  | _, _ => none
theorem atI_rp {C : Cn} {H : Hp} {ds : List D} {vs : List V} {i : Int} {d : D} (r : RpL C H ds vs) (e : atI ds i = some d) : ∃ v, atI vs i = some v ∧ Rp C H d v := by
  unfold atI at e ⊢
  rw [r.length]
  cases q : ixN ds.length i with
  | none => rw [q] at e; cases e
  | some j =>
    rw [q] at e
    obtain ⟨v, e1, r1⟩ := r.get (i := j) e
    exact ⟨v, e1, r1⟩
section
variable {X : Cx} {C : Cn} {a b : Expr} {ma mb : SS → O Hd} {pos : Pos}
theorem ix_D (hK : X.K = C.K) : IxR X (rD C opIx) := by
  intro value slice p s τ H x y v u Q I rx ry ⟨a, b, d, ra, rb, e, k⟩ hs
  unfold opIx at e
  split at e
  · obtain ⟨p1, vs, rfl, s1, r1⟩ := ra.tup
    have := rb.int; subst this
    obtain ⟨w, e1, rw1⟩ := atI_rp r1 e
    exact ix_tup value slice p s τ H _ _ v u Q I rx ry ⟨p1, vs, _, w, rfl, rfl, hK ▸ s1, e1, k _ H (.refl H) rw1⟩ hs
  · obtain ⟨p1, vs, rfl, s1, r1⟩ := ra.lst
    have := rb.int; subst this
    obtain ⟨w, e1, rw1⟩ := atI_rp r1 e
    exact ix_list value slice p s τ H _ _ v u Q I rx ry ⟨p1, vs, _, w, rfl, rfl, hK ▸ s1, e1, k _ H (.refl H) rw1⟩ hs
  · rename_i z i
    split at e
    · rename_i hl
      have := ra.str; subst this
      have := rb.int; subst this
      cases q : atI z.cps.toList i with
      | none => rw [q] at e; cases e
      | some c =>
        rw [q] at e; cases e
        exact ix_str value slice p s τ H _ _ v u Q I rx ry ⟨z, i, c, rfl, rfl, by rw [LIM_eq]; exact hl, q, k _ H (.refl H) .s⟩ hs
    · cases e
  · cases e
theorem me_ix (hK : X.K = C.K) (ha : MH X C a ma) (hb : MH X C b mb) (hs : PlainIx b) : ME X C (.Subscript a b pos) (sOp opIx ma mb) :=
  ⟨fun E W tk => (pe_ix (ix_D (X := X.wish E) hK) (ha.pe E W tk) (hb.pe E W tk) hs).imp fun _ _ _ h => op_core h⟩
/-- -a -/
def sNeg (m : SS → O Hd) : SS → O D := fun σ => (m σ).bind fun h σ1 => match res σ1 h with
  | some (.int i) => .ok (.int (-i)) σ1
  | _ => .bad
theorem me_neg (ha : MH X C a ma) : ME X C (.UnaryOp .USub a pos) (sNeg ma) := by
  refine ⟨fun E W tk => (pe_un (un_neg (X := X.wish E)) (ha.pe E W tk)).imp fun τ H Q h => ?_⟩
  refine (tG_bind (R := RH C) h).mono fun x H1 ⟨h1, r1, f1, G, σ, sr, p⟩ => ?_
  dsimp only at p
  split at p
  · rename_i i e
    exact ⟨i, (sr.res r1 e).int, p _ H1 .i sr (.refl _)⟩
  · exact p.elim
end

/-! ### slices -/
def cut {α : Type} (xs : List α) (lo hi : Option Int) : List α := (xs.drop (HT.sIx xs.length 0 lo)).take (HT.sIx xs.length xs.length hi - HT.sIx xs.length 0 lo)
def part : Option Hd → SS → Option (Option Int)
  | none, _ => some none
  | some h, σ => match res σ h with
    | some (.int i) => some (some i)
    | _ => none
def opSl (d : D) (lo hi : Option Int) : Option D := match d with
  | .tup ds => some (.tup (cut ds lo hi))
  | .str z => if z.length ≤ LIM then some (.str (cutS z lo hi)) else none
  | .lst ds => some (.lst (cut ds lo hi))
  | _ => none
theorem cut_rp {C : Cn} {H : Hp} {ds : List D} {vs : List V} {lo hi : Option Int} (r : RpL C H ds vs) : RpL C H (cut ds lo hi) (cutV vs lo hi) := by
  unfold cut cutV
  rw [r.length]
  exact (r.drop _).take _
theorem cut_whole {α : Type} {xs : List α} {lo hi : Option Int} (h1 : HT.sIx xs.length 0 lo = 0) (h2 : HT.sIx xs.length xs.length hi = xs.length) : cut xs lo hi = xs := by
  unfold cut
  rw [h1, h2]
  simp
section
variable {X : Cx} {C : Cn}
theorem sl_D (hK : X.K = C.K) : SlR X (fun x lo hi H Q => ∃ a d, Rb C H a x ∧ opSl a lo hi = some d ∧ ∀ r H', Same H H' → Rp C H' d r → Q r H') := by
  intro p s τ H x v vl vu lo hi sl Q I rx hs pl pu ⟨a, d, ra, e, k⟩
  unfold opSl at e
  split at e
  · rename_i ds
    cases e
    obtain ⟨p1, vs, rfl, s1, r1⟩ := ra.tup
    refine sl_tupA p s τ H _ v vl vu lo hi sl Q I rx hs pl pu ⟨p1, vs, rfl, hK ▸ s1, fun hw => ?_, fun hw q hq => ?_⟩
    · rw [r1.length] at hw
      rw [cut_whole hw.1 hw.2] at k
      exact k _ H (.refl H) (rp_tup s1 r1)
    · have sm : Same H (upd H q (.tup (cutV vs lo hi))) := same_new hq
      exact k _ _ sm (rp_tup (SqT.of upd_same) ((cut_rp r1).fx (.of_same sm)))
  · split at e
    · rename_i hl
      cases e
      have := ra.str; subst this
      exact sl_str p s τ H _ v vl vu lo hi sl Q I rx hs pl pu ⟨_, rfl, by rw [LIM_eq]; exact hl, k _ H (.refl H) .s⟩
    · cases e
  · rename_i ds
    cases e
    obtain ⟨p1, vs, rfl, s1, r1⟩ := ra.lst
    obtain ⟨T, id, h1, h2, h3⟩ := sl_list p s τ H _ v vl vu lo hi sl (FzQ Q) I rx hs pl pu ⟨p1, vs, rfl, hK ▸ s1, fun q hq => by
      have sm : Same H (upd H q (.lst (cutV vs lo hi))) := same_new hq
      refine .inr ⟨q, _, rfl, upd_same, fun o => ?_⟩
      have sm2 : Same H (upd (upd H q (.lst (cutV vs lo hi))) q (.frz o (.lst (cutV vs lo hi)))) := by rw [upd_upd]; exact same_new hq
      exact k _ _ sm2 (rp_frz upd_same ((cut_rp r1).fx (.of_same sm)))⟩
    exact ⟨T, id, h1, h2, thn h3 fun _ _ z => EP.fz z⟩
  · cases e
variable {e : Expr} {lo hi : Option Expr} {pos p2 : Pos} {m : SS → O Hd}
/-- a slice's part -/
structure MP (X : Cx) (C : Cn) (e : Option Expr) (m : SS → O (Option Int)) : Prop where
  po : ∀ E W, Takes (X.wish E) W → PO (X.wish E) e (tG (fun _ _ o v => v = o) C W m)
theorem mp_none : MP X C none (fun σ => .ok none σ) := by
  refine ⟨fun E W tk => ⟨fun pins s σ H Q I h => ?_⟩⟩
  refine po_none.run pins s σ H Q I ?_
  exact tG_ret h none rfl
def sPart (m : SS → O D) : SS → O (Option Int) := fun σ => (m σ).bind fun d σ1 => match d with
  | .int i => .ok (some i) σ1
  | _ => .bad
theorem mp_some {m : SS → O D} (h : ME X C e m) : MP X C (some e) (sPart m) := by
  refine ⟨fun E W tk => ⟨fun pins s τ H Q I q => ?_⟩⟩
  refine (po_some (h.pe E W tk)).run pins s τ H Q I ?_
  refine (tG_bind (R := fun _ => Rp C) q).mono fun x H1 ⟨d, r1, f1, G, σ, sr, p⟩ => ?_
  dsimp only at p
  split at p
  · rename_i i
    exact ⟨i, r1.rb.int, p (some i) H1 rfl sr (.refl _)⟩
  · exact p.elim
def sSl (m : SS → O Hd) (l u : SS → O (Option Int)) : SS → O D := fun σ => (m σ).bind fun h σ1 => (l σ1).bind fun lo σ2 => (u σ2).bind fun hi σ3 => match res σ3 h with
  | some d => ofOpt (opSl d lo hi) σ3
  | none => .bad
theorem me_slice {l u : SS → O (Option Int)} (hK : X.K = C.K) (h : MH X C e m) (hl : MP X C lo l) (hu : MP X C hi u) : ME X C (.Subscript e (.Slice lo hi none p2) pos) (sSl m l u) := by
  refine ⟨fun E W tk => (pe_slice (sl_D (X := X.wish E) (C := C) hK) (h.pe E W tk) (hl.po E W tk) (hu.po E W tk)).imp fun τ H Q q => ?_⟩
  refine (tG_bind (R := RH C) q).mono fun x H1 ⟨h1, r1, f1, q1⟩ => ?_
  refine (tG_bind (R := fun _ _ o v => v = o) q1).mono fun lo' H2 ⟨lo2, e2, f2, q2⟩ => ?_
  refine (tG_bind (R := fun _ _ o v => v = o) q2).mono fun hi' H3 ⟨hi2, e3, f3, G, σ, sr, p⟩ => ?_
  subst e2 e3
  dsimp only at p
  split at p
  · rename_i d e
    cases q : opSl d lo' hi' with
    | none => rw [q] at p; exact p.elim
    | some d2 =>
      rw [q] at p
      exact ⟨d, d2, sr.res ((r1.fx f2).fx f3) e, q, fun r H' s z => p r H' z (sr.same s) (.of_same s)⟩
  · exact p.elim
end
end TL

set_option Elab.async false
set_option linter.all false
set_option maxRecDepth 100000
set_option maxHeartbeats 4000000
/-! TL6: defs: what they promise, how they are called. -/
namespace TL
open PySem PySem.Spec PyProof.Rows L2

/-- a def's end: what it hands back, and its arguments behind it -/
inductive FO where
  | ok (d : D) (outs : List SD) | okm (m : MO) (outs : List SD) | ex (x : Ex) (outs : List SD) | bad
abbrev FT := List SD → FO
def isOwn (as : List SD) (k : Nat) : Prop := ∃ m, as[k]? = some (.own m)
structure RArgs (C : Cn) (H : Hp) (as : List SD) (vs : List V) (A : Nat → Addr) : Prop where
  tabs : LamX.Tabs C.T H
  len : as.length = vs.length
  val : ∀ (k : Nat) (d : D), as[k]? = some (SD.val d) → ∃ v, vs[k]? = some v ∧ Rp C H d v
  own : ∀ (k : Nat) (m : MO), as[k]? = some (SD.own m) → vs[k]? = some (.ref (A k)) ∧ RM C H m (A k)
  noio : ∀ (k j : Nat) (m : MO), as[k]? ≠ some (SD.io j m)
  inj : ∀ j k, isOwn as j → isOwn as k → j ≠ k → A j ≠ A k
structure RKeep (C : Cn) (H H' : Hp) (as outs : List SD) (A : Nat → Addr) : Prop where
  fx : Fx C.T H H'
  old : ∀ a o, H a = some o → notTbl o = true → (∀ k, isOwn as k → A k ≠ a) → H' a = some o
  out : ∀ k, isOwn as k → ∃ m', outs[k]? = some (.own m') ∧ RM C H' m' (A k)
def spT (C : Cn) (F : FT) : Sp := fun vs H Q E => ∃ (as : List SD) (A : Nat → Addr), RArgs C H as vs A ∧ match F as with
  | .bad => False
  | .ok d outs => ∀ v H', Rp C H' d v → RKeep C H H' as outs A → Q v H'
  | .okm m outs => ∀ a o H', H' a = some o → RM C H' m a → (∀ u, H a = some u → notTbl u = false) → RKeep C H H' as outs A → Q (.ref a) H'
  | .ex x outs => ∀ cls dd H', RX C H' x cls dd → RKeep C H H' as outs A → E cls dd H'
structure FnT (P : Program) (w : World) (K : PySem.W.Frag) (mg : Str → Option Value) (base : Heap) (C : Cn) (k : Nat) (f : Addr) (fd : FuncData) (ps : List Str) (F : FT) : Prop where
  len : ∀ as, F as ≠ .bad → as.length = ps.length
  run : ∀ (A : Around) (outer : List Env) (s : Shared) (H : Hp) (args : Args) (us : List Value) (vs : List V) (Q : VK) (E : XK), TRoom k A → Env0 P w K mg base A outer s H → BindsTo s fd args (ps.zip us) → Vals vs us → spT C F vs H Q E →
    codeAny (model P w) A (.call (.ref f) args) (CR (CX P w) outer P w H s Q E) s
theorem spT_len {P : Program} {w : World} {K : PySem.W.Frag} {mg : Str → Option Value} {base : Heap} {C : Cn} {k : Nat} {f : Addr} {fd : FuncData} {ps : List Str} {F : FT} (h : FnT P w K mg base C k f fd ps F) {vs : List V} {H : Hp} {Q : VK} {E : XK} (q : spT C F vs H Q E) : vs.length = ps.length := by
  obtain ⟨as, A, r, m⟩ := q
  rw [← r.len]
  refine h.len as fun e => ?_
  rw [e] at m
  exact m

/-! ### a def's body -/
def inSlot (k : Nat) : SD → Option SD
  | .own m => some (.io k m)
  | sd => some sd
def startS (n : Nat) (as : List SD) : SS := (as.mapIdx fun k sd => inSlot k sd) ++ List.replicate (n - as.length) none
/-- the arguments behind the body -/
def outOf (σ : SS) (k : Nat) : SD → Option SD
  | .own _ => match σ[k]? with
    | some (some (.io j m)) => if j = k then some (.own m) else none
    | _ => none
  | sd => some sd
def outsAt (σ : SS) : Nat → List SD → Option (List SD)
  | _, [] => some []
  | k, a :: as => match outOf σ k a, outsAt σ (k + 1) as with
    | some o, some os => some (o :: os)
    | _, _ => none
def runB (n np : Nat) (body : SS → OS) : FT := fun as => if as.length = np then match body (startS n as) with
  | .nx σ => match outsAt σ 0 as with
    | some os => .ok .non os
    | none => .bad
  | .rt d σ => match outsAt σ 0 as with
    | some os => .ok d os
    | none => .bad
  | .rtm m σ => match outsAt σ 0 as with
    | some os => .okm m os
    | none => .bad
  | .ex x σ => match outsAt σ 0 as with
    | some os => .ex x os
    | none => .bad
  | _ => .bad else .bad
theorem outsAt_get {σ : SS} : ∀ {as : List SD} {k : Nat} {os : List SD} {i : Nat} {m : MO}, outsAt σ k as = some os → as[i]? = some (.own m) → ∃ m', os[i]? = some (.own m') ∧ σ[k + i]? = some (some (.io (k + i) m'))
  | [], _, _, _, _, _, e => by simp at e
  | a :: as, k, os, 0, m, h, e => by
    simp at e
    subst e
    unfold outsAt at h
    split at h
    · rename_i o os' h1 h2
      cases h
      unfold outOf at h1
      dsimp only at h1
      split at h1
      · rename_i j m' q
        split at h1
        · rename_i hj
          subst hj
          cases h1
          exact ⟨m', rfl, q⟩
        · cases h1
      · cases h1
    · cases h
  | a :: as, k, os, i + 1, m, h, e => by
    unfold outsAt at h
    split at h
    · rename_i o os' h1 h2
      cases h
      obtain ⟨m', e1, e2⟩ := outsAt_get (i := i) h2 (by simpa using e)
      exact ⟨m', by simpa using e1, by rw [show k + (i + 1) = k + 1 + i by omega]; exact e2⟩
    · cases h

section
variable {C : Cn} {H : Hp} {as : List SD} {vs : List V} {A : Nat → Addr} {n : Nat} {N : List Str}
open Classical in
/-- the ghost of a body: all stands but what came to be changed -/
noncomputable def g0 (H : Hp) (as : List SD) (A : Nat → Addr) : Gh := ⟨fun a => if ∃ k, isOwn as k ∧ A k = a then none else (H a).filter notTbl, A⟩
theorem startS_get {i : Nat} {sd : SD} (e : (startS n as)[i]? = some (some sd)) : ∃ a, as[i]? = some a ∧ inSlot i a = some sd := by
  unfold startS at e
  by_cases hi : i < as.length
  · rw [List.getElem?_append_left (by simpa using hi), List.getElem?_mapIdx] at e
    cases q : as[i]? with
    | none => rw [q] at e; cases e
    | some a => rw [q] at e; exact ⟨a, rfl, by simpa using e⟩
  · rw [List.getElem?_append_right (by simpa using hi), List.getElem?_replicate] at e
    split at e <;> cases e
open Classical in
theorem sr_start (r : RArgs C H as vs A) (hN : n = N.length) (hl : as.length ≤ n) : SR C (g0 H as A) H (startS n as) (L2.start N vs) := by
  refine ⟨?_, fun a o e => ?_, fun a o e => ?_, r.tabs, fun i => if isOwn as i then [A i] else [], fun i sd e => ?_, fun i j a hn h1 h2 => ?_, fun i a h => ?_, fun i h => ?_⟩
  · unfold startS L2.start
    simp only [List.length_append, List.length_mapIdx, List.length_replicate, List.length_map]
    rw [← hN, ← r.len]
  · unfold g0 at e
    dsimp only at e
    split at e
    · cases e
    · exact (Option.filter_eq_some_iff.mp e).1
  · unfold g0 at e
    dsimp only at e
    split at e
    · cases e
    · exact (Option.filter_eq_some_iff.mp e).2
  · obtain ⟨a, e1, e2⟩ := startS_get e
    have hi : i < vs.length := by
      rw [← r.len]
      exact (List.getElem?_eq_some_iff.mp e1).1
    have st : ∀ v, vs[i]? = some v → (L2.start N vs)[i]? = some (some v) := fun v q => by
      unfold L2.start
      rw [List.getElem?_append_left (by simpa using hi), List.getElem?_map, q]; rfl
    cases a with
    | val d =>
      obtain ⟨v, q1, q2⟩ := r.val i d e1
      cases e2
      have : ¬ isOwn as i := fun ⟨m, z⟩ => by rw [e1] at z; cases z
      exact ⟨v, st v q1, q2, if_neg this⟩
    | own m =>
      obtain ⟨q1, q2⟩ := r.own i m e1
      cases e2
      exact ⟨_, st _ q1, rfl, if_pos ⟨m, e1⟩, q2⟩
    | io j m => exact absurd e1 (r.noio i j m)
  · dsimp only at h1 h2
    split at h1
    · split at h2
      · rename_i o1 o2
        exact r.inj i j o1 o2 hn ((List.mem_singleton.mp h1).symm.trans (List.mem_singleton.mp h2))
      · cases h2
    · cases h1
  · dsimp only at h
    split at h
    · rename_i o
      unfold g0
      dsimp only
      rw [if_pos ⟨i, o, (List.mem_singleton.mp h).symm⟩]
    · cases h
  · dsimp only
    split
    · rename_i o
      obtain ⟨m, e⟩ := o
      refine absurd ?_ (h (.io i m))
      have hi : i < as.length := (List.getElem?_eq_some_iff.mp e).1
      unfold startS
      rw [List.getElem?_append_left (by simpa using hi), List.getElem?_mapIdx, e]
      rfl
    · rfl
open Classical in
theorem sr_end {H' : Hp} {σ : SS} {τ : L2.St} {os : List SD} (sr : SR C (g0 H as A) H' σ τ) (fx : Fx C.T H H') (e : outsAt σ 0 as = some os) : RKeep C H H' as os A := by
  refine ⟨fx, fun a o q nt hn => sr.gr a o ?_, fun k ⟨m, q⟩ => ?_⟩
  · unfold g0
    dsimp only
    rw [if_neg fun ⟨k, o1, o2⟩ => hn k o1 o2, q]
    exact Option.filter_eq_some_iff.mpr ⟨rfl, nt⟩
  · obtain ⟨m', e1, e2⟩ := outsAt_get e q
    rw [Nat.zero_add] at e2
    obtain ⟨v, F, _, r1⟩ := sr.at e2
    exact ⟨m', e1, r1.2.2⟩
end

theorem sr_new {C : Cn} {H : Hp} {as : List SD} {A : Nat → Addr} {H' : Hp} {σ : SS} {τ : L2.St} {os : List SD} {p : Addr} {o : HO} (sr : SR C ⟨upd (g0 H as A).hp p o, A⟩ H' σ τ) (n : (g0 H as A).hp p = none) (e : outsAt σ 0 as = some os) : ∀ u, H p = some u → notTbl u = false := by
  unfold g0 at n
  dsimp only at n
  split at n
  · rename_i hk
    obtain ⟨k, ⟨m, q⟩, hp⟩ := hk
    obtain ⟨m', e1, e2⟩ := outsAt_get e q
    rw [Nat.zero_add] at e2
    obtain ⟨_, _, _, _, F, h1, _, h3, _⟩ := sr
    obtain ⟨v, _, r1⟩ := h1 k _ e2
    have : upd (g0 H as A).hp p o (A k) = none := h3 k (A k) (by rw [r1.2.1]; exact List.mem_singleton.mpr rfl)
    rw [hp, upd_same] at this
    cases this
  · intro u q
    rw [q] at n
    cases z : notTbl u with
    | false => rfl
    | true => simp [Option.filter, z] at n
theorem TRoom.deeper {k : Nat} {A : Around} (r : TRoom (k + 1) A) (env : Env) : TRoom k (A.deeper env) :=
  ⟨r.hd, r.gd, by have := r.dp; show A.depth + 1 + k + 20 < _; omega, by have := r.un; show A.units + 3 + 16 * k + 400 < _; omega⟩
/-- THE RULE: a def of the text -/
theorem fnT_of {P : Program} {w : World} {K : PySem.W.Frag} {mg : Str → Option Value} {base : Heap} {C : Cn} {k : Nat} {f : Addr} {name qual : Str} {params : Arguments} {body : List Stmt} {scope : Scope} {dV kV doc pm cdv ct oc : Value} {an od : Option Addr}
    {osl : Array (Option Value)} {N ps : List Str} {m : SS → OS} (lk : K.lookup f = some ⟨oc, od, .func (PySem.W.fnOf name qual params body scope dV kV doc pm an cdv ct), osl⟩) (hcd : PySem.W.codeIn K cdv qual = true) (S : FnScope N ps scope)
    (hbody : ∀ (A : Around) (outer : List Env) (s : Shared) (H : Hp) (E : XK), TRoom k (A.deeper (envOfC qual scope s.heap.objs.size f cdv)) → MSs (cxOf (CX P w) P w K mg base N qual scope f cdv A outer s H E) C body m) :
    FnT P w K mg base C (k + 1) f (PySem.W.fnOf name qual params body scope dV kV doc pm an cdv ct) ps (runB N.length ps.length m) := by
  have hlen : ∀ as, runB N.length ps.length m as ≠ .bad → as.length = ps.length := fun as h => by
    unfold runB at h
    split at h
    · assumption
    · exact absurd rfl h
  refine ⟨hlen, fun A outer s H args us vs Q E hr e0 hb r hsp => ?_⟩
  have hpl : ps.length ≤ N.length := by have := congrArg List.length S.pre; rw [List.length_take] at this; omega
  obtain ⟨as, Ad, ra, hq⟩ := hsp
  have hla : as.length = ps.length := hlen as fun e => by rw [e] at hq; exact hq
  have hl : vs.length = ps.length := ra.len.symm.trans hla
  have KX : K.In s.heap := e0.mod.kin.keeps fun b o e => (e0.bs b o e).1
  have lim : s.heap.NoLimit := e0.mod.nolimit.keeps fun b o e => (e0.bs b o e).1
  have hkind : ∀ y ∈ ps.zip us, scope.names.lookup y.1 = some .local ∨ (scope.names.lookup y.1 = some .cell ∧ ((cellsFrom (s.heap.objs.size + 1) scope.names []).lookup y.1).isSome = true) := fun ⟨n, v⟩ hy => by
    rcases S.par n (List.of_mem_zip hy).1 with q | q
    · exact .inl q
    · exact .inr ⟨q, PySem.W.cellsFrom_some _ _ _ (.inl q)⟩
  have hdep : A.depth < recursionLimit := by have := hr.dp; omega
  refine codeAny_call_function hdep (KX _ _ lk) rfl S.co S.gen rfl (PySem.W.codeRec_of KX hcd) (hb _ _ _ _ ?_)
  refine wpAny_newFunctionEnv_cells S.kind hkind fun env he s1 x => ?_
  subst he
  refine ⟨lim.keeps x.toInCall.keep, codeAny_func ?_⟩
  have hm := hbody A outer s H E (hr.deeper _)
  have I : Inv (cxOf (CX P w) P w K mg base N qual scope f cdv A outer s H E) [] (L2.start N vs) H s1 := inv_start S hr.hd e0 hl r x
  have tk : Takes (cxOf (CX P w) P w K mg base N qual scope f cdv A outer s H E) (fun cls d _ H => E cls d H) := takes_of rfl rfl rfl rfl
  have pw : PassesOwn (model P w) (A.deeper (envOfC qual scope s.heap.objs.size f cdv)) (envOfC qual scope s.heap.objs.size f cdv) (cxOf (CX P w) P w K mg base N qual scope f cdv A outer s H E).xe := PassesOwn.leaving
  have sr := sr_start (N := N) ra rfl (by omega : as.length ≤ N.length)
  have go := (hm.ps _ _ tk pw).run [] s1 (L2.start N vs) H ⟨fun _ H' => Q .non H', Q, fun _ _ => False, fun _ _ => False⟩ I ⟨_, _, sr, by
    unfold runB at hq
    rw [if_pos hla] at hq
    cases e : m (startS N.length as) with
    | bad => rw [e] at hq; exact hq
    | bk σ => rw [e] at hq; exact hq.elim
    | ct σ => rw [e] at hq; exact hq.elim
    | nx σ =>
      rw [e] at hq
      dsimp only at hq
      intro τ' H' sr' fx
      cases e2 : outsAt σ 0 as with
      | none => rw [e2] at hq; exact hq.elim
      | some os => rw [e2] at hq; exact hq _ H' .n (sr_end sr' fx e2)
    | rt d σ =>
      rw [e] at hq
      dsimp only at hq
      intro v τ' H' rd sr' fx
      cases e2 : outsAt σ 0 as with
      | none => rw [e2] at hq; exact hq.elim
      | some os => rw [e2] at hq; exact hq v H' rd (sr_end sr' fx e2)
    | rtm m2 σ =>
      rw [e] at hq
      dsimp only at hq
      intro a o τ' H' ha rm n sr' fx
      cases e2 : outsAt σ 0 as with
      | none => rw [e2] at hq; exact hq.elim
      | some os => rw [e2] at hq; exact hq a o H' ha rm (sr_new sr' n e2) (sr_end (sr'.freeG n) fx e2)
    | ex x σ =>
      rw [e] at hq
      dsimp only at hq
      intro cls dd τ' H' rx sr' fx
      cases e2 : outsAt σ 0 as with
      | none => rw [e2] at hq; exact hq.elim
      | some os => rw [e2] at hq; exact hq cls dd H' rx (sr_end sr' fx e2)⟩
  refine wpAny_mono go (fun fl s' hs => ?_) fun e s' hs => hs
  have fin : ∀ {σ' : L2.St} {H' : Hp} {v : V} {u : Value}, Inv (cxOf (CX P w) P w K mg base N qual scope f cdv A outer s H E) [] σ' H' s' → RelV v u → Q v H' → CE outer P w H s Q u s' :=
    fun {σ' H' v u} J rv q => ⟨v, H', J.os, J.bare, J.base, J.hok, rv, q⟩
  cases fl with
  | ret u =>
    obtain ⟨v, σ', H', J, rv, q⟩ := hs
    exact fin J.unwish rv q
  | next =>
    obtain ⟨σ', H', J, q⟩ := hs
    exact fin (v := V.non) (u := Value.none) J.unwish rfl q
  | brk =>
    obtain ⟨_, _, _, q⟩ := hs
    exact False.elim q
  | cont =>
    obtain ⟨_, _, _, q⟩ := hs
    exact False.elim q

/-! ### a call's arguments -/
inductive AV where | v (d : D) | s (i : Nat)
def RAV (C : Cn) (τ : L2.St) (H : Hp) : AV → V → Prop
  | .v d, x => Rp C H d x
  | .s i, x => τ[i]? = some (some x)
theorem RAV.fx {C : Cn} {τ : L2.St} {H H' : Hp} {a : AV} {x : V} (r : RAV C τ H a x) (f : Fx C.T H H') : RAV C τ H' a x := by
  cases a with
  | v d => exact Rp.fx f r
  | s i => exact r
abbrev RAVs (C : Cn) (τ : L2.St) (H : Hp) (as : List AV) (xs : List V) : Prop := Paired (RAV C τ H) as xs
structure MAV (X : Cx) (C : Cn) (es : List Expr) (m : SS → O (List AV)) : Prop where
  pa : ∀ E W, Takes (X.wish E) W → PA (X.wish E) es (tG (RAVs C) C W m)
structure MA1 (X : Cx) (C : Cn) (e : Expr) (m : SS → O AV) : Prop where
  pe : ∀ E W, Takes (X.wish E) W → PE (X.wish E) e (tG (RAV C) C W m)
def sAv (m : SS → O D) : SS → O AV := fun σ => (m σ).bind fun d σ1 => .ok (.v d) σ1
def sAs (i : Nat) : SS → O AV := fun σ => match σ[i]? with
  | some (some (.own _)) => .ok (.s i) σ
  | some (some (.io _ _)) => .ok (.s i) σ
  | _ => .bad
section
variable {X : Cx} {C : Cn} {pos : Pos} {e : Expr} {es : List Expr}
theorem m1_val {m : SS → O D} (h : ME X C e m) : MA1 X C e (sAv m) :=
  ⟨fun E W tk => (h.pe E W tk).imp fun τ H Q q => (tG_bind (R := fun _ => Rp C) q).mono fun x H1 ⟨d, r, f, h1⟩ => tG_ret h1 x r⟩
theorem m1_slot (i : Nat) {x : Str} (hN : X.N[i]? = some x := by rfl) (hv : Vis X.env.scope x := by first | exact Or.inl rfl | exact Or.inr (Or.inl rfl) | exact Or.inr (Or.inr rfl)) (hd : (x == ("__debug__" : Str)) = false := by decide)
    (hcd : (x == ("__classdict__" : Str)) = false := by decide) : MA1 X C (.Name x pos) (sAs i) := by
  refine ⟨fun E W tk => (pv (X := X.wish E) i hN hv hd hcd).imp fun τ H Q h => ?_⟩
  obtain ⟨G, σ, r, p⟩ := h
  unfold sAs at p
  split at p
  · rename_i m e
    obtain ⟨v, F, e1, r1⟩ := r.at e
    exact ⟨v, e1, p v H e1 r (.refl H)⟩
  · rename_i k m e
    obtain ⟨v, F, e1, r1⟩ := r.at e
    exact ⟨v, e1, p v H e1 r (.refl H)⟩
  · exact p.elim
def sANil : SS → O (List AV) := fun σ => .ok [] σ
def sACons (a : SS → O AV) (m : SS → O (List AV)) : SS → O (List AV) := fun σ => (a σ).bind fun d σ1 => (m σ1).bind fun ds σ2 => .ok (d :: ds) σ2
theorem mv_nil : MAV X C [] sANil := ⟨fun E W tk => pa_nil.imp fun τ H Q h => tG_ret h _ .nil⟩
theorem mv_cons {a : SS → O AV} {m : SS → O (List AV)} (ha : MA1 X C e a) (hm : MAV X C es m) (hs : starEach (e :: es) X.env = (false, eval e X.env) :: starEach es X.env := by rfl) : MAV X C (e :: es) (sACons a m) := by
  refine ⟨fun E W tk => (pa_cons (ha.pe E W tk) (hm.pa E W tk) hs).imp fun τ H Q h => ?_⟩
  refine (tG_bind (R := RAV C) h).mono fun x H1 ⟨d, r1, f1, h1⟩ => ?_
  refine (tG_bind (R := RAVs C) h1).mono fun xs H2 ⟨ds, r2, f2, h2⟩ => ?_
  exact tG_ret h2 _ (.cons (r1.fx f2) r2)
end

/-! ### a call -/
def argOf (σ : SS) : AV → Option SD
  | .v d => some (.val d)
  | .s i => match σ[i]? with
    | some (some (.own m)) => some (.own m)
    | some (some (.io _ m)) => some (.own m)
    | _ => none
def argsOf (σ : SS) : List AV → Option (List SD)
  | [] => some []
  | a :: as => match argOf σ a, argsOf σ as with
    | some o, some os => some (o :: os)
    | _, _ => none
def slots : List AV → List Nat
  | [] => []
  | .v _ :: r => slots r
  | .s i :: r => i :: slots r
def put1 (σ : SS) (i : Nat) (m : MO) : SS := match σ[i]? with
  | some (some (.own _)) => σ.set i (some (.own m))
  | some (some (.io k _)) => σ.set i (some (.io k m))
  | _ => σ
def putBack (σ : SS) : List AV → List SD → SS
  | .s i :: r, .own m :: os => putBack (put1 σ i m) r os
  | _ :: r, _ :: os => putBack σ r os
  | _, _ => σ
def sCall (F : FT) (ds : List D) (m : SS → O (List AV)) : SS → O D := fun σ => (m σ).bind fun as σ1 => if (slots as).Nodup then match argsOf σ1 as with
  | some args => match F (args ++ ds.map SD.val) with
    | .ok d outs => .ok d (putBack σ1 as outs)
    | .ex x outs => .ex x (putBack σ1 as outs)
    | _ => .bad
  | none => .bad else .bad

def found (i : Nat) : List AV → List SD → Option MO
  | .s j :: r, .own m :: os => (found i r os).or (if j = i then some m else none)
  | _ :: r, _ :: os => found i r os
  | _, _ => none
def repl (o : Option MO) (s : Option SD) : Option SD := match o, s with
  | some m, some (.own _) => some (.own m)
  | some m, some (.io k _) => some (.io k m)
  | _, s => s
theorem repl_repl (o : Option MO) (m : MO) (s : Option SD) : repl o (repl (some m) s) = repl (o.or (some m)) s := by
  cases o with
  | none =>
    cases s with
    | none => rfl
    | some s => cases s <;> rfl
  | some n =>
    cases s with
    | none => rfl
    | some s => cases s <;> rfl
theorem repl_none (s : Option SD) : repl none s = s := by
  cases s with
  | none => rfl
  | some s => cases s <;> rfl
theorem put1_len {σ : SS} {j : Nat} {m : MO} : (put1 σ j m).length = σ.length := by
  unfold put1
  split <;> simp
theorem put1_get {σ : SS} {i j : Nat} {m : MO} : (put1 σ j m)[i]? = (σ[i]?).map (repl (if j = i then some m else none)) := by
  unfold put1
  by_cases hj : j = i
  · subst hj
    rw [if_pos rfl]
    split
    · rename_i m0 e
      have hl := (List.getElem?_eq_some_iff.mp e).1
      rw [List.getElem?_set, if_pos rfl, if_pos hl, e]; rfl
    · rename_i k m0 e
      have hl := (List.getElem?_eq_some_iff.mp e).1
      rw [List.getElem?_set, if_pos rfl, if_pos hl, e]; rfl
    · rename_i h1 h2
      cases e : σ[j]? with
      | none => rfl
      | some s =>
        cases s with
        | none => rfl
        | some sd =>
          cases sd with
          | val d => rfl
          | own m0 => exact absurd e (h1 m0)
          | io k m0 => exact absurd e (h2 k m0)
  · rw [if_neg hj]
    have : (σ[i]?).map (repl none) = σ[i]? := by cases σ[i]? with
      | none => rfl
      | some s => exact congrArg some (repl_none s)
    rw [this]
    split
    · rw [List.getElem?_set_ne hj]
    · rw [List.getElem?_set_ne hj]
    · rfl
theorem putBack_get {i : Nat} : ∀ {as : List AV} {os : List SD} {σ : SS}, (putBack σ as os)[i]? = (σ[i]?).map (repl (found i as os))
  | [], _, σ => by
    show σ[i]? = _
    cases σ[i]? with
    | none => rfl
    | some s => exact (congrArg some (repl_none s)).symm
  | _ :: _, [], σ => by
    have : ∀ a (r : List AV), putBack σ (a :: r) [] = σ := fun a r => by cases a <;> rfl
    rw [this]
    have : ∀ a (r : List AV), found i (a :: r) [] = none := fun a r => by cases a <;> rfl
    rw [this]
    cases σ[i]? with
    | none => rfl
    | some s => exact (congrArg some (repl_none s)).symm
  | .v d :: r, o :: os, σ => by
    show (putBack σ r os)[i]? = (σ[i]?).map (repl (found i r os))
    exact putBack_get
  | .s j :: r, .val d :: os, σ => by
    show (putBack σ r os)[i]? = (σ[i]?).map (repl (found i r os))
    exact putBack_get
  | .s j :: r, .io k m :: os, σ => by
    show (putBack σ r os)[i]? = (σ[i]?).map (repl (found i r os))
    exact putBack_get
  | .s j :: r, .own m :: os, σ => by
    show (putBack (put1 σ j m) r os)[i]? = (σ[i]?).map (repl ((found i r os).or (if j = i then some m else none)))
    rw [putBack_get, put1_get]
    cases σ[i]? with
    | none => rfl
    | some s =>
      show some (repl _ (repl _ s)) = some _
      by_cases hj : j = i
      · rw [if_pos hj, repl_repl]
      · rw [if_neg hj, repl_none]
        congr 2
        cases found i r os <;> rfl
theorem putBack_len : ∀ {as : List AV} {os : List SD} {σ : SS}, (putBack σ as os).length = σ.length
  | [], _, σ => rfl
  | a :: r, [], σ => by cases a <;> rfl
  | .v d :: r, o :: os, σ => putBack_len (as := r) (os := os)
  | .s j :: r, .val d :: os, σ => putBack_len (as := r) (os := os)
  | .s j :: r, .io k m :: os, σ => putBack_len (as := r) (os := os)
  | .s j :: r, .own m :: os, σ => (putBack_len (as := r) (os := os)).trans put1_len
theorem found_some {i : Nat} {m : MO} : ∀ {as : List AV} {os : List SD}, found i as os = some m → ∃ k : Nat, as[k]? = some (.s i) ∧ os[k]? = some (.own m)
  | [], _, h => by cases h
  | a :: r, [], h => by cases a <;> cases h
  | .v d :: r, o :: os, h => by
    obtain ⟨k, h1, h2⟩ := found_some (as := r) (os := os) h
    exact ⟨k + 1, by simpa using h1, by simpa using h2⟩
  | .s j :: r, .val d :: os, h => by
    obtain ⟨k, h1, h2⟩ := found_some (as := r) (os := os) h
    exact ⟨k + 1, by simpa using h1, by simpa using h2⟩
  | .s j :: r, .io _ _ :: os, h => by
    obtain ⟨k, h1, h2⟩ := found_some (as := r) (os := os) h
    exact ⟨k + 1, by simpa using h1, by simpa using h2⟩
  | .s j :: r, .own m' :: os, h => by
    have h : (found i r os).or (if j = i then some m' else none) = some m := h
    cases e : found i r os with
    | some m2 =>
      rw [e] at h; cases h
      obtain ⟨k, h1, h2⟩ := found_some (as := r) (os := os) e
      exact ⟨k + 1, by simpa using h1, by simpa using h2⟩
    | none =>
      rw [e] at h
      by_cases hj : j = i
      · rw [if_pos hj] at h
        cases h
        exact ⟨0, by rw [hj]; rfl, rfl⟩
      · rw [if_neg hj] at h; cases h
theorem found_none {i k : Nat} {m : MO} : ∀ {as : List AV} {os : List SD} {k : Nat}, found i as os = none → as[k]? = some (.s i) → os[k]? = some (.own m) → False
  | [], _, _, _, h, _ => by simp at h
  | a :: r, [], _, _, _, h => by simp at h
  | .v d :: r, o :: os, 0, _, h, _ => by simp at h
  | .v d :: r, o :: os, k + 1, h, h1, h2 => found_none (k := k) (as := r) (os := os) h (by simpa using h1) (by simpa using h2)
  | .s j :: r, .val d :: os, 0, _, _, h => by simp at h
  | .s j :: r, .val d :: os, k + 1, h, h1, h2 => found_none (k := k) (as := r) (os := os) h (by simpa using h1) (by simpa using h2)
  | .s j :: r, .io _ _ :: os, 0, _, _, h => by simp at h
  | .s j :: r, .io _ _ :: os, k + 1, h, h1, h2 => found_none (k := k) (as := r) (os := os) h (by simpa using h1) (by simpa using h2)
  | .s j :: r, .own m' :: os, 0, h, h1, _ => by
    have h : (found i r os).or (if j = i then some m' else none) = none := h
    have hj : j = i := by simpa using h1
    rw [if_pos hj] at h
    cases q : found i r os with
    | none => rw [q] at h; cases h
    | some m2 => rw [q] at h; cases h
  | .s j :: r, .own m' :: os, k + 1, h, h1, h2 => by
    have h : (found i r os).or (if j = i then some m' else none) = none := h
    cases q : found i r os with
    | none => exact found_none (k := k) (as := r) (os := os) q (by simpa using h1) (by simpa using h2)
    | some m2 => rw [q] at h; cases h
/-- the address of a slot's thing -/
def adr (τ : L2.St) (i : Nat) : Addr := match τ[i]? with
  | some (some (.ref a)) => a
  | _ => 0
def adrs (τ : L2.St) (as : List AV) (k : Nat) : Addr := match as[k]? with
  | some (.s i) => adr τ i
  | _ => 0
theorem argsOf_len {σ : SS} : ∀ {as : List AV} {args : List SD}, argsOf σ as = some args → args.length = as.length
  | [], args, h => by cases h; rfl
  | a :: as, args, h => by
    unfold argsOf at h
    split at h
    · rename_i o os h1 h2
      cases h
      simp [argsOf_len h2]
    · cases h
theorem argsOf_get {σ : SS} : ∀ {as : List AV} {args : List SD} {k : Nat} {sd : SD}, argsOf σ as = some args → args[k]? = some sd → ∃ a, as[k]? = some a ∧ argOf σ a = some sd
  | [], args, k, sd, h, e => by cases h; simp at e
  | a :: as, args, k, sd, h, e => by
    unfold argsOf at h
    split at h
    · rename_i o os h1 h2
      cases h
      cases k with
      | zero => simp at e; subst e; exact ⟨a, rfl, h1⟩
      | succ k =>
        obtain ⟨b, e1, e2⟩ := argsOf_get (k := k) h2 (by simpa using e)
        exact ⟨b, by simpa using e1, e2⟩
    · cases h
theorem slots_mem {i : Nat} : ∀ {as : List AV} {k : Nat}, as[k]? = some (.s i) → i ∈ slots as
  | [], _, h => by simp at h
  | .v _ :: r, 0, h => by simp at h
  | .v _ :: r, k + 1, h => slots_mem (as := r) (k := k) (by simpa using h)
  | .s j :: r, 0, h => by simp at h; subst h; exact List.mem_cons_self
  | .s j :: r, k + 1, h => List.mem_cons_of_mem _ (slots_mem (as := r) (k := k) (by simpa using h))
theorem slots_inj {i : Nat} : ∀ {as : List AV} {j k : Nat}, (slots as).Nodup → as[j]? = some (.s i) → as[k]? = some (.s i) → j = k
  | [], _, _, _, h, _ => by simp at h
  | .v _ :: r, 0, _, _, h, _ => by simp at h
  | .v _ :: r, _ + 1, 0, _, _, h => by simp at h
  | .v _ :: r, j + 1, k + 1, nd, h1, h2 => congrArg (· + 1) (slots_inj (as := r) (j := j) (k := k) nd (by simpa using h1) (by simpa using h2))
  | .s x :: r, 0, 0, _, _, _ => rfl
  | .s x :: r, 0, k + 1, nd, h1, h2 => by
    simp at h1; subst h1
    exact absurd (slots_mem (as := r) (k := k) (by simpa using h2)) (List.nodup_cons.mp nd).1
  | .s x :: r, j + 1, 0, nd, h1, h2 => by
    simp at h2; subst h2
    exact absurd (slots_mem (as := r) (k := j) (by simpa using h1)) (List.nodup_cons.mp nd).1
  | .s x :: r, j + 1, k + 1, nd, h1, h2 => congrArg (· + 1) (slots_inj (as := r) (j := j) (k := k) (List.nodup_cons.mp nd).2 (by simpa using h1) (by simpa using h2))
theorem paired_get {α β : Type} {R : α → β → Prop} : ∀ {xs : List α} {ys : List β} {i : Nat} {a : α}, Paired R xs ys → xs[i]? = some a → ∃ b, ys[i]? = some b ∧ R a b
  | _, _, i, a, .nil, e => by simp at e
  | _, _, 0, a, .cons r _, e => by simp at e; subst e; exact ⟨_, rfl, r⟩
  | _, _, i + 1, a, .cons _ t, e => by
    obtain ⟨b, h1, h2⟩ := paired_get (i := i) t (by simpa using e)
    exact ⟨b, by simpa using h1, h2⟩
section
variable {C : Cn} {G : Gh} {H : Hp} {σ : SS} {τ : L2.St} {as : List AV} {xs : List V} {args : List SD} {ds : List D} {dvs : List V}
/-- the slot of an argument that may change -/
theorem SR.own (sr : SR C G H σ τ) {i : Nat} {m : MO} (h : argOf σ (.s i) = some (.own m)) : τ[i]? = some (some (.ref (adr τ i))) ∧ RM C H m (adr τ i) := by
  unfold argOf at h
  dsimp only at h
  split at h
  · rename_i m0 e
    cases h
    obtain ⟨v, F, e1, a, rfl, e3, r1⟩ := sr.at e
    have : adr τ i = a := by unfold adr; rw [e1]
    rw [this]; exact ⟨e1, r1⟩
  · rename_i k m0 e
    cases h
    obtain ⟨v, F, e1, rfl, e3, r1⟩ := sr.at e
    have : adr τ i = G.at_ k := by unfold adr; rw [e1]
    rw [this]; exact ⟨e1, r1⟩
  · cases h
theorem args_r (sr : SR C G H σ τ) (ra : RAVs C τ H as xs) (nd : (slots as).Nodup) (ea : argsOf σ as = some args) (rd : RpL C H ds dvs) : RArgs C H (args ++ ds.map SD.val) (xs ++ dvs) (adrs τ as) := by
  have hl := argsOf_len ea
  have hl2 : as.length = xs.length := Paired.length ra
  have inl : ∀ {k : Nat} {m : MO}, (args ++ ds.map SD.val)[k]? = some (SD.own m) → ∃ i, as[k]? = some (.s i) ∧ argOf σ (.s i) = some (.own m) ∧ k < args.length := fun {k m} e => by
    by_cases hk : k < args.length
    · rw [List.getElem?_append_left hk] at e
      obtain ⟨a, e1, e2⟩ := argsOf_get ea e
      cases a with
      | v d => cases e2
      | s i => exact ⟨i, e1, e2, hk⟩
    · rw [List.getElem?_append_right (Nat.le_of_not_lt hk), List.getElem?_map] at e
      cases q : ds[k - args.length]? with
      | none => rw [q] at e; cases e
      | some d => rw [q] at e; cases e
  refine ⟨sr.tabs, by simp [hl, hl2, rd.length], fun k d e => ?_, fun k m e => ?_, fun k j m e => ?_, fun j k ⟨m1, o1⟩ ⟨m2, o2⟩ hn => ?_⟩
  · by_cases hk : k < args.length
    · rw [List.getElem?_append_left hk] at e
      obtain ⟨a, e1, e2⟩ := argsOf_get ea e
      cases a with
      | v d' =>
        cases e2
        obtain ⟨b, q1, q2⟩ := paired_get ra e1
        exact ⟨b, by rw [List.getElem?_append_left (by omega)]; exact q1, q2⟩
      | s i =>
        unfold argOf at e2
        dsimp only at e2
        split at e2 <;> cases e2
    · rw [List.getElem?_append_right (Nat.le_of_not_lt hk), List.getElem?_map] at e
      cases q : ds[k - args.length]? with
      | none => rw [q] at e; cases e
      | some d' =>
        rw [q] at e; cases e
        obtain ⟨b, q1, q2⟩ := rd.get q
        exact ⟨b, by rw [List.getElem?_append_right (by omega), show k - xs.length = k - args.length by omega]; exact q1, q2⟩
  · obtain ⟨i, e1, e2, hk⟩ := inl e
    obtain ⟨q1, q2⟩ := sr.own e2
    obtain ⟨b, q3, q4⟩ := paired_get ra e1
    have q4 : τ[i]? = some (some b) := q4
    rw [q1] at q4; cases q4
    have ad : adrs τ as k = adr τ i := by unfold adrs; rw [e1]
    rw [ad]
    exact ⟨by rw [List.getElem?_append_left (by omega)]; exact q3, q2⟩
  · by_cases hk : k < args.length
    · rw [List.getElem?_append_left hk] at e
      obtain ⟨a, e1, e2⟩ := argsOf_get ea e
      cases a with
      | v d' => cases e2
      | s i =>
        unfold argOf at e2
        dsimp only at e2
        split at e2 <;> cases e2
    · rw [List.getElem?_append_right (Nat.le_of_not_lt hk), List.getElem?_map] at e
      cases q : ds[k - args.length]? with
      | none => rw [q] at e; cases e
      | some d' => rw [q] at e; cases e
  · obtain ⟨i1, e1, f1, _⟩ := inl o1
    obtain ⟨i2, e2, f2, _⟩ := inl o2
    have a1 : adrs τ as j = adr τ i1 := by unfold adrs; rw [e1]
    have a2 : adrs τ as k = adr τ i2 := by unfold adrs; rw [e2]
    rw [a1, a2]
    have hi : i1 ≠ i2 := fun z => by subst z; exact hn (slots_inj nd e1 e2)
    obtain ⟨q1, _⟩ := sr.own f1
    obtain ⟨q2, _⟩ := sr.own f2
    intro z
    obtain ⟨_, _, _, _, F, h1, h2, _, _⟩ := sr
    have mem : ∀ {i : Nat} {m : MO}, argOf σ (.s i) = some (.own m) → τ[i]? = some (some (.ref (adr τ i))) → adr τ i ∈ F i := fun {i m} f q => by
      unfold argOf at f
      dsimp only at f
      split at f
      · rename_i m0 e
        obtain ⟨v, e3, a, e4, e5, _⟩ := h1 i _ e
        rw [q] at e3; cases e3
        cases e4
        rw [e5]; exact List.mem_singleton.mpr rfl
      · rename_i k m0 e
        obtain ⟨v, e3, e4, e5, _⟩ := h1 i _ e
        rw [q] at e3; cases e3
        rw [e5, List.mem_singleton]
        exact V.ref.inj e4
      · cases f
    exact h2 i1 i2 _ hi (mem f1 q1) (z ▸ mem f2 q2)
/-- behind the call -/
theorem sr_back {H' : Hp} {outs : List SD} (sr : SR C G H σ τ) (ra : RAVs C τ H as xs) (ea : argsOf σ as = some args) (rk : RKeep C H H' (args ++ ds.map SD.val) outs (adrs τ as)) : SR C G H' (putBack σ as outs) τ := by
  have hla := argsOf_len ea
  have own_of : ∀ {k i : Nat} {sd : SD}, as[k]? = some (.s i) → σ[i]? = some (some sd) → (∀ d, sd ≠ .val d) → isOwn (args ++ ds.map SD.val) k := fun {k i sd} e q hd => by
    have hk : k < args.length := by rw [hla]; exact (List.getElem?_eq_some_iff.mp e).1
    have e2 : args[k]? = some (args[k]) := List.getElem?_eq_getElem hk
    obtain ⟨a, e3, e4⟩ := argsOf_get ea e2
    rw [e] at e3; cases e3
    unfold argOf at e4
    dsimp only at e4
    rw [q] at e4
    cases sd with
    | val d => exact absurd rfl (hd d)
    | own m => exact ⟨m, by rw [List.getElem?_append_left hk, e2]; exact e4.symm⟩
    | io j m => exact ⟨m, by rw [List.getElem?_append_left hk, e2]; exact e4.symm⟩
  have slot_of : ∀ {k : Nat}, isOwn (args ++ ds.map SD.val) k → ∃ i m, as[k]? = some (.s i) ∧ argOf σ (.s i) = some (.own m) := fun {k} ⟨m, e⟩ => by
    by_cases hk : k < args.length
    · rw [List.getElem?_append_left hk] at e
      obtain ⟨a, e1, e2⟩ := argsOf_get ea e
      cases a with
      | v d => cases e2
      | s i => exact ⟨i, m, e1, e2⟩
    · rw [List.getElem?_append_right (Nat.le_of_not_lt hk), List.getElem?_map] at e
      cases q : ds[k - args.length]? with
      | none => rw [q] at e; cases e
      | some d => rw [q] at e; cases e
  have sr0 := sr
  obtain ⟨l, g, nt, tb, F, h1, h2, h3, h4⟩ := sr
  have inF : ∀ {k : Nat}, isOwn (args ++ ds.map SD.val) k → ∃ i, as[k]? = some (.s i) ∧ adrs τ as k ∈ F i := fun {k} o => by
    obtain ⟨i, m, e1, e2⟩ := slot_of o
    obtain ⟨q1, _⟩ := sr0.own e2
    have ad : adrs τ as k = adr τ i := by unfold adrs; rw [e1]
    refine ⟨i, e1, ?_⟩
    rw [ad]
    unfold argOf at e2
    dsimp only at e2
    split at e2
    · rename_i m0 e
      obtain ⟨v, e3, a, e4, e5, _⟩ := h1 i _ e
      rw [q1] at e3; cases e3
      cases e4
      rw [e5]; exact List.mem_singleton.mpr rfl
    · rename_i j m0 e
      obtain ⟨v, e3, e4, e5, _⟩ := h1 i _ e
      rw [q1] at e3; cases e3
      rw [e5, List.mem_singleton]
      exact V.ref.inj e4
    · cases e2
  refine ⟨by rw [putBack_len]; exact l, fun a o e => rk.old a o (g a o e) (nt a o e) fun k o1 z => ?_, nt, rk.fx.2 tb, F, fun i sd e => ?_, h2, h3, fun i hn => h4 i fun sd e => ?_⟩
  · obtain ⟨i, _, hm⟩ := inF o1
    have := h3 i _ hm
    rw [z, e] at this; cases this
  · rw [putBack_get] at e
    cases q : σ[i]? with
    | none => rw [q] at e; cases e
    | some s =>
      rw [q] at e
      have e : repl (found i as outs) s = some sd := Option.some.inj e
      cases s with
      | none => cases hf : found i as outs with
        | none => rw [hf] at e; cases e
        | some m => rw [hf] at e; cases e
      | some sd0 =>
        obtain ⟨v, e1, r1⟩ := h1 i sd0 q
        refine ⟨v, e1, ?_⟩
        cases hf : found i as outs with
        | none =>
          rw [hf, repl_none] at e
          cases e
          refine r1.keep rk.fx fun a ha => ?_
          obtain ⟨o, q1, q0⟩ := r1.there ha
          rw [q1]
          refine rk.old a o q1 (r1.nt ha q1) fun k ok z => ?_
          obtain ⟨i2, e2, hm⟩ := inF ok
          have hi : i2 = i := by
            by_cases hi : i2 = i
            · exact hi
            · exact (h2 i2 i a hi (z ▸ hm) ha).elim
          subst hi
          obtain ⟨m', eo, _⟩ := rk.out k ok
          exact found_none (k := k) hf e2 eo
        | some m =>
          obtain ⟨k, k1, k2⟩ := found_some hf
          rw [hf] at e
          cases sd0 with
          | val d => cases e; exact ⟨r1.1.fx rk.fx, r1.2⟩
          | own m0 =>
            cases e
            obtain ⟨a, ev, eF, rm⟩ := r1
            obtain ⟨m', eo, rm'⟩ := rk.out k (own_of k1 q fun d z => by cases z)
            rw [k2] at eo; cases eo
            have ad : adrs τ as k = a := by unfold adrs; rw [k1]; dsimp only; unfold adr; rw [e1, ev]
            rw [ad] at rm'
            exact ⟨a, ev, eF, rm'⟩
          | io j m0 =>
            cases e
            obtain ⟨ev, eF, rm⟩ := r1
            obtain ⟨m', eo, rm'⟩ := rk.out k (own_of k1 q fun d z => by cases z)
            rw [k2] at eo; cases eo
            have ad : adrs τ as k = G.at_ j := by unfold adrs; rw [k1]; dsimp only; unfold adr; rw [e1, ev]
            rw [ad] at rm'
            exact ⟨ev, eF, rm'⟩
  · cases hf : found i as outs with
    | none => exact hn sd (by rw [putBack_get, e, hf]; exact congrArg some (repl_none _))
    | some m =>
      cases sd with
      | val d => exact hn (.val d) (by rw [putBack_get, e, hf]; rfl)
      | own m0 => exact hn (.own m) (by rw [putBack_get, e, hf]; rfl)
      | io j m0 => exact hn (.io j m) (by rw [putBack_get, e, hf]; rfl)
end

section
variable {X : Cx} {C : Cn} {k : Nat} {f : Addr} {fd : FuncData} {ps : List Str} {F : FT} {dvs : List V} {ds : List Value} {dD : List D} {x : Str} {p pos : Pos} {e : Expr} {es : List Expr}
theorem run_fnT {W : WX} {pins : List (Addr × Obj)} {τ : L2.St} {H : Hp} {s : Shared} {Q : VK} {us : List Value} {vs : List V} {E' : Value → Shared → Prop} (Fn : FnT X.prog X.w X.K X.mg X.base C k f fd ps F) (hr : TRoom k X.A) (hb : Binds X.K fd ps ds) (hd : Vals dvs ds)
    (tk : Takes (X.wish E') W) (I : Inv (X.wish E') pins τ H s) (r : Vals vs us) (h : spT C F (vs ++ dvs) H Q fun cls d H' => W cls d τ H') : wpAny (model X.prog X.w) X.A (call (.ref f) us) (EP (X.wish E') pins τ Q) E' s := by
  have r2 : Vals (vs ++ dvs) (us ++ ds) := r.append hd
  have hl : (us ++ ds).length = ps.length := by rw [← r2.length]; exact spT_len Fn h
  refine wpAny_call (codeAny_mono (Fn.run X.A X.stack s H ⟨us, []⟩ (us ++ ds) (vs ++ dvs) Q (fun cls d H' => W cls d τ H') hr I.env0 (hb s us I.kIn hl) r2 h) fun r s' hq => ?_)
  cases r with
  | error e => exact tk e s' (XE.of_call I (fun cls d H' h => h) hq)
  | ok fl =>
    cases fl with
    | ret u => exact I.after hq
    | next => exact False.elim hq
    | brk => exact False.elim hq
    | cont => exact False.elim hq
theorem call_core {W : WX} {τ : L2.St} {H : Hp} {Q : VK} {m : SS → O (List AV)} (hd : ∀ H, RpL C H dD dvs) (h : tE C W (sCall F dD m) τ H Q) : tG (RAVs C) C W m τ H fun xs H1 => spT C F (xs ++ dvs) H1 Q fun cls d H' => W cls d τ H' := by
  refine (tG_bind (R := RAVs C) h).mono fun xs H1 ⟨as, ra, f1, G, σ, sr, p⟩ => ?_
  dsimp only at p
  split at p
  · rename_i nd
    split at p
    · rename_i args ea
      refine ⟨args ++ dD.map SD.val, adrs τ as, args_r sr ra nd ea (hd H1), ?_⟩
      cases e : F (args ++ dD.map SD.val) with
      | bad => rw [e] at p; exact p
      | ok d outs => rw [e] at p; exact fun v H' rv rk => p v H' rv (sr_back sr ra ea rk) rk.fx
      | okm m2 outs => rw [e] at p; exact p.elim
      | ex x outs => rw [e] at p; exact fun cls dd H' rx rk => p cls dd H' rx (sr_back sr ra ea rk) rk.fx
    · exact p.elim
  · exact p.elim
theorem me_call {m : SS → O (List AV)} (Fn : FnT X.prog X.w X.K X.mg X.base C k f fd ps F) (hr : TRoom k X.A) (hg : Gl X x) (hm : X.mg x = some (.ref f)) (hk : PySem.W.keepIn X.K (.ref f) = true) (hb : Binds X.K fd ps ds) (hd : Vals dvs ds) (hdd : ∀ H, RpL C H dD dvs)
    (ha : MAV X C (e :: es) m) (hdb : (x == ("__debug__" : Str)) = false := by decide) (he : starEach (e :: es) X.env = (false, eval e X.env) :: starEach es X.env := by rfl) (hpl : (backTo pos (starEach es X.env)).any (·.1) = false := by rfl) :
    ME X C (.Call (.Name x p) (e :: es) [] pos) (sCall F dD m) := by
  refine ⟨fun E W tk => ⟨fun pins s τ H Q I h => ?_⟩⟩
  refine wpAny_Call_Name_kw (ld_glob I hg hm ?_ hdb)
  refine PySem.W.callWith_K (h₀ := X.base) I.ok.mod.kin hk (thn ((ha.pa E W tk).run pos pins s τ H _ I (call_core hdd h)) fun us s1 ⟨vs, H1, I1, r, q⟩ => ⟨I1.kIn, ?_⟩) he hpl
  exact run_fnT Fn hr hb hd tk I1 r q
theorem me_call0 (Fn : FnT X.prog X.w X.K X.mg X.base C k f fd ps F) (hr : TRoom k X.A) (hg : Gl X x) (hm : X.mg x = some (.ref f)) (hk : PySem.W.keepIn X.K (.ref f) = true) (hb : Binds X.K fd ps ds) (hd : Vals dvs ds) (hdd : ∀ H, RpL C H dD dvs)
    (hdb : (x == ("__debug__" : Str)) = false := by decide) : ME X C (.Call (.Name x p) [] [] pos) (sCall F dD sANil) := by
  refine ⟨fun E W tk => ⟨fun pins s τ H Q I h => ?_⟩⟩
  refine wpAny_Call_Name_kw (ld_glob I hg hm ?_ hdb)
  have q := tG_ret (R := RAVs C) (b := []) (call_core hdd h) [] .nil
  exact PySem.W.callWith_K0 I.kIn hk (run_fnT (us := []) Fn hr hb hd tk I .nil q)
end
end TL

set_option Elab.async false
set_option linter.all false
set_option maxRecDepth 100000
set_option maxHeartbeats 4000000
/-! TL7: statements. -/
namespace TL
open PySem PySem.Spec PyProof.Rows L2

def O.bindS {α : Type} (o : O α) (f : α → SS → OS) : OS := match o with
  | .ok a σ => f a σ
  | .ex x σ => .ex x σ
  | .bad => .bad
def sSeq (m n : SS → OS) : SS → OS := fun σ => match m σ with
  | .nx σ1 => n σ1
  | o => o
section
variable {C : Cn} {W : WX} {τ : L2.St} {H : Hp} {D' : Ends}
theorem tSt_bind {β γ : Type} {R : L2.St → Hp → β → γ → Prop} {m : SS → O β} {f : β → SS → OS} (h : tSt C W (fun σ => (m σ).bindS f) D' τ H) : tG R C W m τ H fun x H1 => ∃ b, R τ H1 b x ∧ Fx C.T H H1 ∧ tSt C W (f b) D' τ H1 := by
  obtain ⟨G, σ, r, p⟩ := h
  have p : PostS C W G τ H ((m σ).bindS f) D' := p
  refine ⟨G, σ, r, ?_⟩
  cases e : m σ with
  | bad => rw [e] at p; exact p
  | ex x σ' => rw [e] at p; exact fun cls d H' a b c => p cls d τ H' a b c
  | ok b σ' =>
    rw [e] at p
    have p : PostS C W G τ H (f b σ') D' := p
    intro v H1 a b1 c
    refine ⟨b, a, c, G, σ', b1, ?_⟩
    cases e2 : f b σ' with
    | bad => rw [e2] at p; exact p
    | nx σ2 => rw [e2] at p; exact fun τ2 H2 q1 q2 => p τ2 H2 q1 (c.trans q2)
    | bk σ2 => rw [e2] at p; exact fun τ2 H2 q1 q2 => p τ2 H2 q1 (c.trans q2)
    | ct σ2 => rw [e2] at p; exact fun τ2 H2 q1 q2 => p τ2 H2 q1 (c.trans q2)
    | rt d σ2 => rw [e2] at p; exact fun v τ2 H2 q0 q1 q2 => p v τ2 H2 q0 q1 (c.trans q2)
    | rtm m2 σ2 => rw [e2] at p; exact fun a2 o2 τ2 H2 q0 q1 q2 q3 q4 => p a2 o2 τ2 H2 q0 q1 q2 q3 (c.trans q4)
    | ex x σ2 => rw [e2] at p; exact fun cls d τ2 H2 q0 q1 q2 => p cls d τ2 H2 q0 q1 (c.trans q2)
theorem PostS.fx {G : Gh} {H1 : Hp} {τ' : L2.St} {o : OS} (p : PostS C W G τ H o D') (c : Fx C.T H H1) : PostS C W G τ' H1 o D' := by
  cases o with
  | bad => exact p
  | nx σ2 => exact fun τ2 H2 q1 q2 => p τ2 H2 q1 (c.trans q2)
  | bk σ2 => exact fun τ2 H2 q1 q2 => p τ2 H2 q1 (c.trans q2)
  | ct σ2 => exact fun τ2 H2 q1 q2 => p τ2 H2 q1 (c.trans q2)
  | rt d σ2 => exact fun v τ2 H2 q0 q1 q2 => p v τ2 H2 q0 q1 (c.trans q2)
  | rtm m2 σ2 => exact fun a2 o2 τ2 H2 q0 q1 q2 q3 q4 => p a2 o2 τ2 H2 q0 q1 q2 q3 (c.trans q4)
  | ex x σ2 => exact fun cls d τ2 H2 q0 q1 q2 => p cls d τ2 H2 q0 q1 (c.trans q2)
theorem tSt_nx {f : SS → SS} (h : tSt C W (fun σ => .nx (f σ)) D' τ H) : ∃ G σ, SR C G H σ τ ∧ ∀ τ' H', SR C G H' (f σ) τ' → Fx C.T H H' → D'.nx τ' H' := h
end
section
variable {X : Cx} {C : Cn} {st : Stmt} {rest : List Stmt} {pos : Pos} {e : Expr}
theorem mss_nil : MSs X C [] (fun σ => .nx σ) := ⟨fun E W tk pw => pss_nil.imp fun D' τ H ⟨G, σ, sr, p⟩ => p τ H sr (.refl H)⟩
theorem mss_cons {m n : SS → OS} (h : MS X C st m) (g : MSs X C rest n) : MSs X C (st :: rest) (sSeq m n) := by
  refine ⟨fun E W tk pw => (pss_cons (h.ps E W tk pw) (g.ps E W tk pw)).imp fun D' τ H ⟨G, σ, sr, p⟩ => ⟨G, σ, sr, ?_⟩⟩
  have p : PostS C W G τ H (match m σ with | .nx σ1 => n σ1 | o => o) D' := p
  cases q : m σ with
  | nx σ1 => rw [q] at p; exact fun τ' H' s1 f1 => ⟨G, σ1, s1, p.fx f1⟩
  | bad => rw [q] at p; exact p
  | bk σ2 => rw [q] at p; exact p
  | ct σ2 => rw [q] at p; exact p
  | rt d σ2 => rw [q] at p; exact p
  | rtm m2 σ2 => rw [q] at p; exact p
  | ex x σ2 => rw [q] at p; exact p
theorem mss_one {m : SS → OS} (h : MS X C st m) : MSs X C [st] m := ⟨fun E W tk pw => pss_one (h.ps E W tk pw)⟩
theorem ms_pass : MS X C (.Pass pos) (fun σ => .nx σ) := ⟨fun E W tk pw => ps_pass.imp fun D' τ H ⟨G, σ, sr, p⟩ => p τ H sr (.refl H)⟩
theorem ms_break : MS X C (.Break pos) (fun σ => .bk σ) := ⟨fun E W tk pw => ps_break.imp fun D' τ H ⟨G, σ, sr, p⟩ => p τ H sr (.refl H)⟩
theorem ms_continue : MS X C (.Continue pos) (fun σ => .ct σ) := ⟨fun E W tk pw => ps_continue.imp fun D' τ H ⟨G, σ, sr, p⟩ => p τ H sr (.refl H)⟩
def sExpr (m : SS → O D) : SS → OS := fun σ => (m σ).bindS fun _ σ1 => .nx σ1
theorem ms_expr {m : SS → O D} (h : ME X C e m) (hs : swapsWith e none pos.line X.env = pure false := by rfl) : MS X C (.Expr e pos) (sExpr m) :=
  ⟨fun E W tk pw => (ps_expr (h.pe E W tk) hs).imp fun D' τ H q => (tSt_bind (R := fun _ => Rp C) q).mono fun x H1 ⟨d, r, f, G, σ, sr, p⟩ => p τ H1 sr (.refl _)⟩
def sRet (m : SS → O D) : SS → OS := fun σ => (m σ).bindS fun d σ1 => .rt d σ1
theorem ms_ret {m : SS → O D} (h : ME X C e m) : MS X C (.Return (some e) pos) (sRet m) :=
  ⟨fun E W tk pw => (ps_ret (h.pe E W tk)).imp fun D' τ H q => (tSt_bind (R := fun _ => Rp C) q).mono fun x H1 ⟨d, r, f, G, σ, sr, p⟩ => p x τ H1 r sr (.refl _)⟩
theorem ms_retN : MS X C (.Return none pos) (fun σ => .rt .non σ) := ⟨fun E W tk pw => ps_retN.imp fun D' τ H ⟨G, σ, sr, p⟩ => p .non τ H .n sr (.refl H)⟩
def sIfS (c : SS → O Bool) (m n : SS → OS) : SS → OS := fun σ => (c σ).bindS fun k σ1 => if k = true then m σ1 else n σ1
theorem ms_if {c : Expr} {a b : List Stmt} {mc : SS → O Bool} {m n : SS → OS} (hc : MT X C c mc) (ha : MSs X C a m) (hb : MSs X C b n) : MS X C (.If c a b pos) (sIfS mc m n) := by
  refine ⟨fun E W tk pw => (ps_if (hc.pt E W tk) (ha.ps E W tk pw) (hb.ps E W tk pw)).imp fun D' τ H q => ?_⟩
  refine (tSt_bind (R := fun _ _ b b' => b' = b) q).mono fun k H1 ⟨k', r, f1, h1⟩ => ?_
  subst r
  cases k with
  | true => exact iteT h1
  | false => exact iteF h1
/-- x = e -/
def sSet (i : Nat) (m : SS → O D) : SS → OS := fun σ => (m σ).bindS fun d σ1 => .nx (σ1.set i (some (.val d)))
theorem ms_set {m : SS → O D} (i : Nat) {x : Str} {pos' : Pos} (hN : X.N.Nodup) (hi : X.N[i]? = some x) (hx : Loc X.env.scope x) (h : ME X C e m) (hs : swapsWith e (some (.Name x pos')) pos.line X.env = pure false := by rfl)
    (hf : X.fn x = true ∨ X.env.scope.names.lookup x = some .local := by first | exact .inl rfl | exact .inr rfl | assumption) : MS X C (.Assign [.Name x pos'] e pos) (sSet i m) := by
  refine ⟨fun E W tk pw => (ps_set (X := X.wish E) hN hi hx (h.pe E W tk) hs hf).imp fun D' τ H q => ?_⟩
  exact (tSt_bind (R := fun _ => Rp C) q).mono fun x H1 ⟨d, r, f, G, σ, sr, p⟩ => p _ H1 (sr.setVal r) (.refl _)
/-- x = a new list -/
def sOwn (i : Nat) (m : SS → O (List D)) : SS → OS := fun σ => (m σ).bindS fun ds σ1 => .nx (σ1.set i (some (.own (.lst ds))))
theorem tF_core {W : WX} {D' : Ends} {τ : L2.St} {H : Hp} {i : Nat} {m : SS → O (List D)} (h : tSt C W (sOwn i m) D' τ H) : tF C W m τ H fun v H1 => D'.nx (τ.set i (some v)) H1 := by
  obtain ⟨G, σ, r, p⟩ := h
  have p : PostS C W G τ H ((m σ).bindS fun ds σ1 => .nx (σ1.set i (some (.own (.lst ds))))) D' := p
  refine ⟨G, σ, r, ?_⟩
  cases e : m σ with
  | bad => rw [e] at p; exact p
  | ex x σ' => rw [e] at p; exact fun cls d H' a b c => p cls d τ H' a b c
  | ok ds σ' =>
    rw [e] at p
    exact fun a vs H' h1 h2 h3 h4 f => p _ H' (h4.setOwn h3 ⟨vs, h1, h2⟩) f
theorem ms_own {m : SS → O (List D)} (i : Nat) {x : Str} {pos' : Pos} (hN : X.N.Nodup) (hi : X.N[i]? = some x) (hx : Loc X.env.scope x) (h : MF X C e m) (hs : swapsWith e (some (.Name x pos')) pos.line X.env = pure false := by rfl)
    (hf : X.fn x = true ∨ X.env.scope.names.lookup x = some .local := by first | exact .inl rfl | exact .inr rfl | assumption) : MS X C (.Assign [.Name x pos'] e pos) (sOwn i m) :=
  ⟨fun E W tk pw => (ps_set (X := X.wish E) hN hi hx (h.pe E W tk) hs hf).imp fun D' τ H q => tF_core q⟩
/-- x op= e -/
def sAug (i : Nat) (f : D → D → Option D) (m : SS → O D) : SS → OS := fun σ => match look σ i with
  | some a => (m σ).bindS fun d σ1 => match f a d with
    | some r => .nx (σ1.set i (some (.val r)))
    | none => .bad
  | none => .bad
end

/-! ### several targets -/
def GX (C : Cn) (H : Hp) : List SD → List V → Hp → Hp → Prop
  | [], xs, g, g' => xs = [] ∧ g' = g
  | .val d :: ds, xs, g, g' => ∃ x r, xs = x :: r ∧ Rp C H d x ∧ GX C H ds r g g'
  | .own (.lst ls) :: ds, xs, g, g' => ∃ a vs r, xs = .ref a :: r ∧ H a = some (.lst vs) ∧ RpL C H ls vs ∧ g a = none ∧ GX C H ds r (upd g a (.lst vs)) g'
  | _ :: _, _, _, _ => False
def PostM (C : Cn) (W : WX) (τ : L2.St) (G : Gh) (H : Hp) (o : O (List SD)) (Q : List V → Hp → Prop) : Prop := match o with
  | .bad => False
  | .ok ds σ' => ∀ xs H' g', GX C H' ds xs G.hp g' → SR C ⟨g', G.at_⟩ H' σ' τ → Fx C.T H H' → Q xs H'
  | .ex x σ' => ∀ cls d H', RX C H' x cls d → SR C G H' σ' τ → Fx C.T H H' → W cls d τ H'
def tM (C : Cn) (W : WX) (m : SS → O (List SD)) : TA := fun τ H Q => ∃ G σ, SR C G H σ τ ∧ PostM C W τ G H (m σ) Q
structure MM (X : Cx) (C : Cn) (es : List Expr) (m : SS → O (List SD)) : Prop where
  pa : ∀ E W, Takes (X.wish E) W → PA (X.wish E) es (tM C W m)
def sMNil : SS → O (List SD) := fun σ => .ok [] σ
def sMV (a : SS → O D) (m : SS → O (List SD)) : SS → O (List SD) := fun σ => (a σ).bind fun d σ1 => (m σ1).bind fun ds σ2 => .ok (.val d :: ds) σ2
def sMF (a : SS → O (List D)) (m : SS → O (List SD)) : SS → O (List SD) := fun σ => (a σ).bind fun d σ1 => (m σ1).bind fun ds σ2 => .ok (.own (.lst d) :: ds) σ2
theorem GX.sub {C : Cn} {H : Hp} : ∀ {ds : List SD} {xs : List V} {g g' : Hp}, GX C H ds xs g g' → ∀ a o, g a = some o → g' a = some o
  | [], _, _, _, h, a, o, e => by obtain ⟨_, rfl⟩ := h; exact e
  | .val d :: ds, _, _, _, h, a, o, e => by obtain ⟨x, r, _, _, h⟩ := h; exact GX.sub h a o e
  | .own (.lst ls) :: ds, _, g, g', h, a, o, e => by
    obtain ⟨b, vs, r, _, _, _, n, h⟩ := h
    refine GX.sub h a o ?_
    rw [upd_ne (show a ≠ b by rintro rfl; rw [n] at e; cases e)]
    exact e
  | .own (.dct _) :: _, _, _, _, h, _, _, _ => h.elim
  | .io _ _ :: _, _, _, _, h, _, _, _ => h.elim
section
variable {X : Cx} {C : Cn} {e : Expr} {es : List Expr}
theorem mm_nil : MM X C [] sMNil := ⟨fun E W tk => pa_nil.imp fun τ H Q ⟨G, σ, sr, p⟩ => p [] H G.hp ⟨rfl, rfl⟩ sr (.refl H)⟩
theorem mm_val {a : SS → O D} {m : SS → O (List SD)} (ha : ME X C e a) (hm : MM X C es m) (hs : starEach (e :: es) X.env = (false, eval e X.env) :: starEach es X.env := by rfl) : MM X C (e :: es) (sMV a m) := by
  refine ⟨fun E W tk => (pa_cons (ha.pe E W tk) (hm.pa E W tk) hs).imp fun τ H Q ⟨G, σ, sr, p⟩ => ⟨G, σ, sr, ?_⟩⟩
  have p : PostM C W τ G H ((a σ).bind fun d σ1 => (m σ1).bind fun ds σ2 => .ok (.val d :: ds) σ2) Q := p
  cases e1 : a σ with
  | bad => rw [e1] at p; exact p
  | ex x σ' => rw [e1] at p; exact p
  | ok d σ1 =>
    rw [e1] at p
    have p : PostM C W τ G H ((m σ1).bind fun ds σ2 => .ok (.val d :: ds) σ2) Q := p
    intro x H1 r1 s1 f1
    refine ⟨G, σ1, s1, ?_⟩
    cases e2 : m σ1 with
    | bad => rw [e2] at p; exact p
    | ex x σ' => rw [e2] at p; exact fun cls d H' q1 q2 q3 => p cls d H' q1 q2 (f1.trans q3)
    | ok ds σ2 =>
      rw [e2] at p
      exact fun xs H2 g' gx s2 f2 => p (x :: xs) H2 g' ⟨x, xs, rfl, r1.fx f2, gx⟩ s2 (f1.trans f2)
theorem mm_new {a : SS → O (List D)} {m : SS → O (List SD)} (ha : MF X C e a) (hm : MM X C es m) (hs : starEach (e :: es) X.env = (false, eval e X.env) :: starEach es X.env := by rfl) : MM X C (e :: es) (sMF a m) := by
  refine ⟨fun E W tk => (pa_cons (ha.pe E W tk) (hm.pa E W tk) hs).imp fun τ H Q ⟨G, σ, sr, p⟩ => ⟨G, σ, sr, ?_⟩⟩
  have p : PostM C W τ G H ((a σ).bind fun d σ1 => (m σ1).bind fun ds σ2 => .ok (.own (.lst d) :: ds) σ2) Q := p
  cases e1 : a σ with
  | bad => rw [e1] at p; exact p
  | ex x σ' => rw [e1] at p; exact p
  | ok d σ1 =>
    rw [e1] at p
    have p : PostM C W τ G H ((m σ1).bind fun ds σ2 => .ok (.own (.lst d) :: ds) σ2) Q := p
    intro b vs H1 h1 h2 h3 s1 f1
    refine ⟨⟨upd G.hp b (.lst vs), G.at_⟩, σ1, s1, ?_⟩
    cases e2 : m σ1 with
    | bad => rw [e2] at p; exact p
    | ex x σ' => rw [e2] at p; exact fun cls d H' q1 q2 q3 => p cls d H' q1 (q2.freeG h3) (f1.trans q3)
    | ok ds σ2 =>
      rw [e2] at p
      refine fun xs H2 g' gx s2 f2 => p (.ref b :: xs) H2 g' ⟨b, vs, xs, rfl, ?_, h2.fx f2, h3, gx⟩ s2 (f1.trans f2)
      exact s2.gr b _ (gx.sub b _ upd_same)
end
/-- the values go to the slots, one after another -/
def setMany (σ : SS) : List Nat → List SD → SS
  | i :: is, sd :: ds => setMany (σ.set i (some sd)) is ds
  | _, _ => σ
def setManyV (τ : L2.St) : List Nat → List V → L2.St
  | i :: is, v :: vs => setManyV (τ.set i (some v)) is vs
  | _, _ => τ
def delG (g : Hp) (a : Addr) : Hp := fun b => if b = a then none else g b
theorem delG_ne {g : Hp} {a b : Addr} (h : b ≠ a) : delG g a b = g b := if_neg h
theorem delG_same {g : Hp} {a : Addr} : delG g a a = none := if_pos rfl
theorem upd_delG {g : Hp} {a : Addr} {o : HO} (h : g a = some o) : upd (delG g a) a o = g := by
  funext b
  by_cases e : b = a
  · subst e; rw [upd_same, h]
  · rw [upd_ne e, delG_ne e]
theorem GX.len {C : Cn} {H : Hp} : ∀ {ds : List SD} {xs : List V} {g g' : Hp}, GX C H ds xs g g' → xs.length = ds.length
  | [], _, _, _, h => by obtain ⟨rfl, _⟩ := h; rfl
  | .val d :: ds, _, _, _, h => by obtain ⟨x, r, rfl, _, h⟩ := h; simp [GX.len h]
  | .own (.lst ls) :: ds, _, g, g', h => by obtain ⟨b, vs, r, rfl, _, _, n, h⟩ := h; simp [GX.len h]
  | .own (.dct _) :: _, _, _, _, h => h.elim
  | .io _ _ :: _, _, _, _, h => h.elim
/-- g0: what was there ahead of all; gg: what still is nobody's -/
theorem sr_many {C : Cn} {H : Hp} {at_ : Nat → Addr} {g0 : Hp} : ∀ {ds : List SD} {xs : List V} {is : List Nat} {g g' gg : Hp} {σ : SS} {τ : L2.St}, GX C H ds xs g g' → is.length = ds.length → (∀ a o, g0 a = some o → g a = some o) → (∀ a o, g' a = some o → (g a = some o → g0 a = some o) → gg a = some o) → SR C ⟨gg, at_⟩ H σ τ →
    SR C ⟨g0, at_⟩ H (setMany σ is ds) (setManyV τ is xs)
  | [], xs, is, g, g', gg, σ, τ, h, hl, h0, hk, sr => by
    obtain ⟨rfl, rfl⟩ := h
    cases is with
    | nil => exact sr.weakG rfl fun a o e => hk a o (h0 a o e) fun _ => e
    | cons i is => simp at hl
  | .val d :: ds, xs, is, g, g', gg, σ, τ, h, hl, h0, hk, sr => by
    obtain ⟨x, r, rfl, rx, h⟩ := h
    cases is with
    | nil => simp at hl
    | cons i is =>
      show SR C ⟨g0, at_⟩ H (setMany (σ.set i (some (.val d))) is ds) (setManyV (τ.set i (some x)) is r)
      exact sr_many h (by simpa using hl) h0 hk (sr.setVal rx)
  | .own (.lst ls) :: ds, xs, is, g, g', gg, σ, τ, h, hl, h0, hk, sr => by
    obtain ⟨a, vs, r, rfl, ha, rl, n, h⟩ := h
    cases is with
    | nil => simp at hl
    | cons i is =>
      show SR C ⟨g0, at_⟩ H (setMany (σ.set i (some (.own (.lst ls)))) is ds) (setManyV (τ.set i (some (.ref a))) is r)
      have g0a : g0 a = none := by
        cases q : g0 a with
        | none => rfl
        | some o => rw [h0 a o q] at n; cases n
      have gga : gg a = some (.lst vs) := hk a _ (h.sub a _ upd_same) fun z => by rw [n] at z; cases z
      refine sr_many (gg := delG gg a) h (by simpa using hl) (fun b o e => ?_) (fun b o e w => ?_) ?_
      · rw [upd_ne (show b ≠ a by rintro rfl; rw [g0a] at e; cases e)]
        exact h0 b o e
      · have hb : b ≠ a := by
          rintro rfl
          have q := h.sub b _ upd_same
          rw [e] at q; cases q
          have := w upd_same
          rw [g0a] at this; cases this
        rw [delG_ne hb]
        exact hk b o e fun z => w (by rw [upd_ne hb]; exact z)
      · refine SR.setOwn (G := ⟨delG gg a, at_⟩) (o := .lst vs) ?_ delG_same ⟨vs, ha, rl⟩
        show SR C ⟨upd (delG gg a) a (.lst vs), at_⟩ H σ τ
        rw [upd_delG gga]
        exact sr
  | .own (.dct _) :: _, _, _, _, _, _, _, _, h, _, _, _, _ => h.elim
  | .io _ _ :: _, _, _, _, _, _, _, _, h, _, _, _, _ => h.elim
section
variable {X : Cx} {C : Cn} {pos : Pos}
def sMany (is : List Nat) (m : SS → O (List SD)) : SS → OS := fun σ => (m σ).bindS fun ds σ1 => if ds.length = is.length then .nx (setMany σ1 is ds) else .bad
theorem many_core {W : WX} {D' : Ends} {τ : L2.St} {H : Hp} {is : List Nat} {m : SS → O (List SD)} (h : tSt C W (sMany is m) D' τ H) : tM C W m τ H fun xs H1 => xs.length = is.length ∧ ∀ H2, Same H1 H2 → D'.nx (setManyV τ is xs) H2 := by
  obtain ⟨G, σ, sr, p⟩ := h
  have p : PostS C W G τ H ((m σ).bindS fun ds σ1 => if ds.length = is.length then .nx (setMany σ1 is ds) else .bad) D' := p
  refine ⟨G, σ, sr, ?_⟩
  cases e : m σ with
  | bad => rw [e] at p; exact p
  | ex x σ' => rw [e] at p; exact fun cls d H' a b c => p cls d τ H' a b c
  | ok ds σ' =>
    rw [e] at p
    have p : PostS C W G τ H (if ds.length = is.length then .nx (setMany σ' is ds) else .bad) D' := p
    intro xs H1 g' gx s1 f1
    split at p
    · rename_i hl
      refine ⟨gx.len.trans hl, fun H2 sm => p _ H2 ?_ (f1.trans (.of_same sm))⟩
      exact (sr_many gx hl.symm (fun a o e => e) (fun a o e w => e) s1).same sm
    · exact p.elim
theorem ms_par {i j : Nat} {x y : Str} {a b : Expr} {px py pt : Pos} {kt k2 pt2} {m : SS → O (List SD)} (hc : X.calm = true) (hN : X.N.Nodup) (hi : X.N[i]? = some x) (hj : X.N[j]? = some y) (hij : i ≠ j)
    (hx : X.env.scope.names.lookup x = some .local) (hy : X.env.scope.names.lookup y = some .local) (ha : MM X C [a, b] m)
    (hw : swappedStores [.Tuple [.Name x px, .Name y py] kt pt] (.Tuple [a, b] k2 pt2) X.env = pure (some [x, y]))
    (hs : swapsWithSole [.Tuple [.Name x px, .Name y py] kt pt] (.Tuple [a, b] k2 pt2) pos.line X.env = pure false := by rfl) :
    MS X C (.Assign [.Tuple [.Name x px, .Name y py] kt pt] (.Tuple [a, b] k2 pt2) pos) (sMany [i, j] m) := by
  refine ⟨fun E W tk pw => (ps_par (X := X.wish E) hc hN hi hj hij hx hy (ha.pa E W tk) hw hs).imp fun D' τ H q => ?_⟩
  obtain ⟨G, σ, sr, p⟩ := many_core q
  refine ⟨G, σ, sr, ?_⟩
  cases e : m σ with
  | bad => rw [e] at p; exact p
  | ex x σ' => rw [e] at p; exact p
  | ok ds σ' =>
    rw [e] at p
    intro xs H1 g' gx s1 f1
    obtain ⟨hl, k⟩ := p xs H1 g' gx s1 f1
    match xs, hl with
    | [v, w], _ => exact ⟨v, w, rfl, k H1 (.refl _)⟩
end
end TL

set_option Elab.async false
set_option linter.all false
set_option maxRecDepth 100000
set_option maxHeartbeats 4000000
/-! TL8: targets, loops, lists that change. -/
namespace TL
open PySem PySem.Spec PyProof.Rows L2

/-! ### targets -/
/-- only these slots are written -/
def Wr (ws : List Nat) (τ τ' : L2.St) : Prop := τ'.length = τ.length ∧ ∀ j, j ∉ ws → τ'[j]? = τ[j]?
theorem Wr.refl {ws : List Nat} {τ : L2.St} : Wr ws τ τ := ⟨rfl, fun _ _ => rfl⟩
def tGt (C : Cn) (ws : List Nat) (g : D → SS → Option SS) : TG := fun x τ H Q => ∃ d G σ σ', Rp C H d x ∧ SR C G H σ τ ∧ g d σ = some σ' ∧ ∀ τ', SR C G H σ' τ' → Wr ws τ τ' → Q τ' H
def tGts (C : Cn) (ws : List Nat) (g : List D → SS → Option SS) : TGs := fun xs τ H Q => ∃ ds G σ σ', RpL C H ds xs ∧ SR C G H σ τ ∧ g ds σ = some σ' ∧ ∀ τ', SR C G H σ' τ' → Wr ws τ τ' → Q τ' H
structure MG (X : Cx) (C : Cn) (tg : Expr) (ws : List Nat) (g : D → SS → Option SS) : Prop where
  pg : ∀ E, PG (X.wish E) tg (tGt C ws g)
structure MGs (X : Cx) (C : Cn) (ts : List Expr) (ws : List Nat) (g : List D → SS → Option SS) : Prop where
  pgs : ∀ E, PGs (X.wish E) ts (tGts C ws g)
def gN (i : Nat) : D → SS → Option SS := fun d σ => some (σ.set i (some (.val d)))
def gT (g : List D → SS → Option SS) : D → SS → Option SS := fun d σ => match d with
  | .tup ds => g ds σ
  | _ => none
def gZ : List D → SS → Option SS := fun ds σ => match ds with
  | [] => some σ
  | _ => none
def gC (g : D → SS → Option SS) (r : List D → SS → Option SS) : List D → SS → Option SS := fun ds σ => match ds with
  | d :: ds => (g d σ).bind fun σ1 => r ds σ1
  | [] => none
theorem _root_.L2.PG.imp {X : Cx} {e : Expr} {t t' : TG} (h : PG X e t) (k : ∀ v τ H Q, t' v τ H Q → t v τ H Q) : PG X e t' := ⟨fun p s τ H v u Q I r q => h.run p s τ H v u Q I r (k _ _ _ _ q)⟩
theorem _root_.L2.PGs.imp {X : Cx} {e : List Expr} {t t' : TGs} (h : PGs X e t) (k : ∀ v τ H Q, t' v τ H Q → t v τ H Q) : PGs X e t' := ⟨fun p s τ H v u Q I r q => h.run p s τ H v u Q I r (k _ _ _ _ q)⟩
section
variable {X : Cx} {C : Cn} {pos : Pos}
theorem mg_name (i : Nat) {x : Str} (hN : X.N.Nodup) (hi : X.N[i]? = some x) (hx : Loc X.env.scope x) (hf : X.fn x = true ∨ X.env.scope.names.lookup x = some .local := by first | exact .inl rfl | exact .inr rfl | assumption) : MG X C (.Name x pos) [i] (gN i) := by
  refine ⟨fun E => (pg_name (X := X.wish E) hN hi hx hf).imp fun v τ H Q ⟨d, G, σ, σ', r, sr, e, k⟩ => ?_⟩
  cases e
  exact k _ (sr.setVal r) ⟨by simp, fun j hj => List.getElem?_set_ne (fun z => hj (by rw [z]; exact List.mem_singleton.mpr rfl))⟩
theorem mgs_nil : MGs X C [] [] gZ := by
  refine ⟨fun E => pgs_nil.imp fun xs τ H Q ⟨ds, G, σ, σ', r, sr, e, k⟩ => ?_⟩
  unfold gZ at e
  split at e
  · cases e
    exact ⟨r.nilR, k _ sr .refl⟩
  · cases e
theorem mgs_cons {e : Expr} {es : List Expr} {g : D → SS → Option SS} {r : List D → SS → Option SS} {w1 w2 : List Nat} (h1 : MG X C e w1 g) (h2 : MGs X C es w2 r)
    (hs : (assignEach (e :: es) X.env).map (·.2) = assign e X.env :: (assignEach es X.env).map (·.2) := by rfl) : MGs X C (e :: es) (w1 ++ w2) (gC g r) := by
  refine ⟨fun E => (pgs_cons (h1.pg E) (h2.pgs E) hs).imp fun xs τ H Q ⟨ds, G, σ, σ', rl, sr, e, k⟩ => ?_⟩
  unfold gC at e
  split at e
  · rename_i d ds
    simp only [RpL] at rl
    obtain ⟨v, vs, rfl, r1, r2⟩ := rl
    cases q : g d σ with
    | none => rw [q] at e; cases e
    | some σ1 =>
      rw [q] at e
      exact ⟨v, vs, rfl, d, G, σ, σ1, r1, sr, q, fun τ1 s1 q1 => ⟨ds, G, σ1, σ', r2, s1, e, fun τ' s' q' => k τ' s' ⟨q'.1.trans q1.1, fun j hj => (q'.2 j fun z => hj (List.mem_append_right _ z)).trans (q1.2 j fun z => hj (List.mem_append_left _ z))⟩⟩⟩
  · cases e
theorem mg_tup {es : List Expr} {kk : Nat} {g : List D → SS → Option SS} {n : Nat} {ws : List Nat} (hK : X.K = C.K) (hc : X.calm = true) (h : MGs X C es ws g) (hl : ∀ ds σ σ', g ds σ = some σ' → ds.length = n)
    (hn : (assignEach es X.env).length = n := by rfl) (hst : (assignEach es X.env).findIdx? (·.1) = none := by rfl) : MG X C (.Tuple es kk pos) ws (gT g) := by
  refine ⟨fun E => (pg_tup (X := X.wish E) hc (h.pgs E) hn hst).imp fun v τ H Q ⟨d, G, σ, σ', r, sr, e, k⟩ => ?_⟩
  unfold gT at e
  split at e
  · obtain ⟨a, vs, rfl, s1, r1⟩ := r.rb.tup
    exact ⟨a, vs, rfl, by rw [show (X.wish E).K = C.K from hK]; exact s1, by rw [r1.length]; exact hl _ _ _ e, _, G, σ, σ', r1, sr, e, k⟩
  · cases e
theorem gZ_len {ds : List D} {σ σ' : SS} (h : gZ ds σ = some σ') : ds.length = 0 := by
  unfold gZ at h
  split at h
  · rfl
  · cases h
theorem gC_len {g : D → SS → Option SS} {r : List D → SS → Option SS} {n : Nat} (h : ∀ ds σ σ', r ds σ = some σ' → ds.length = n) : ∀ ds σ σ', gC g r ds σ = some σ' → ds.length = n + 1 := fun ds σ σ' e => by
  unfold gC at e
  split at e
  · rename_i d ds
    cases q : g d σ with
    | none => rw [q] at e; cases e
    | some σ1 => rw [q] at e; simp [h _ _ _ e]
  · cases e
/-- target = e -/
def sAsg (g : D → SS → Option SS) (m : SS → O D) : SS → OS := fun σ => (m σ).bindS fun d σ1 => match g d σ1 with
  | some σ2 => .nx σ2
  | none => .bad
theorem ms_asg {tg e : Expr} {g : D → SS → Option SS} {m : SS → O D} {ws : List Nat} (h : ME X C e m) (hg : MG X C tg ws g) (hs : swapsWithSole [tg] e pos.line X.env = pure false := by rfl) (hw : swappedStores [tg] e X.env = pure none := by rfl)
    (h1 : (assignEach [tg] X.env).map (·.2) = [assign tg X.env] := by rfl) : MS X C (.Assign [tg] e pos) (sAsg g m) := by
  refine ⟨fun E W tk pw => (ps_asg (h.pe E W tk) (hg.pg E) hs hw h1).imp fun D' τ H q => ?_⟩
  refine (tSt_bind (R := fun _ => Rp C) q).mono fun x H1 ⟨d, r, f, G, σ, sr, p⟩ => ?_
  dsimp only at p
  cases q : g d σ with
  | none => rw [q] at p; exact p.elim
  | some σ2 => rw [q] at p; exact ⟨d, G, σ, σ2, r, sr, q, fun τ' s' _ => p τ' H1 s' (.refl _)⟩
end

/-! ### what is walked -/
def ItOk (C : Cn) (J : It) (H1 : Hp) (ds : List D) : Prop :=
  (∀ i H, Fx C.T H1 H → i < ds.length → J.go i H) ∧ (∀ i H x H', Fx C.T H1 H → i < ds.length → J.yld i H x H' → Same H H' ∧ ∃ d, ds[i]? = some d ∧ Rp C H' d x) ∧ ∀ H, Fx C.T H1 H → J.stop ds.length H
def tIt (C : Cn) (W : WX) (m : SS → O (List D)) : TI := tG (fun _ H ds J => ItOk C J H ds) C W m
structure MI (X : Cx) (C : Cn) (tg iter : Expr) (m : SS → O (List D)) : Prop where
  pi : ∀ E W, Takes (X.wish E) W → PI (X.wish E) tg iter (tIt C W m)
theorem _root_.L2.PI.imp {X : Cx} {tg iter : Expr} {t t' : TI} (h : PI X tg iter t) (k : ∀ τ H R, t' τ H R → t τ H R) : PI X tg iter t' := ⟨fun p s τ H R I q => h.run p s τ H R I (k _ _ _ q)⟩
section
variable {X : Cx} {C : Cn} {pos p1 : Pos} {tg e : Expr}
/-- a list, a tuple that stands -/
def sItL (m : SS → O D) : SS → O (List D) := fun σ => (m σ).bind fun d σ1 => match d with
  | .lst ds => .ok ds σ1
  | _ => .bad
def sItT (m : SS → O D) : SS → O (List D) := fun σ => (m σ).bind fun d σ1 => match d with
  | .tup ds => .ok ds σ1
  | _ => .bad
def sItS (m : SS → O D) : SS → O (List D) := fun σ => (m σ).bind fun d σ1 => match d with
  | .str x => .ok (x.cps.toList.map fun c => .str ⟨#[c]⟩) σ1
  | _ => .bad
theorem lst_stands {T : List (Addr × Str)} {K : PySem.W.Frag} {H1 H : Hp} {a : Addr} {vs : List V} (s : (∃ o, H1 a = some (.frz o (.lst vs))) ∨ ∃ (o : Obj) (its : Array Value) (n : Nat), K.lookup a = some o ∧ o.cls = .type "list" ∧ o.dict = none ∧ o.data = .seq its n ∧ its.size ≤ sizeLine ∧ Vals vs its.toList) (f : Fx T H1 H) : SqL K H a vs := by
  rcases s with ⟨o, s⟩ | s
  · exact .inl (.inr ⟨o, f.1 _ _ s rfl⟩)
  · exact .inr s
theorem itok_list {H1 : Hp} {a : Addr} {vs : List V} {ds : List D} (s : ∀ H, Fx C.T H1 H → SqL C.K H a vs) (r : RpL C H1 ds vs) : ItOk C (Itl C.K a) H1 ds := by
  refine ⟨fun i H f hi => ?_, fun i H x H' f hi y => ?_, fun H f => ⟨vs, s H f, by rw [r.length]; exact Nat.le_refl _⟩⟩
  · obtain ⟨v, e, _⟩ := r.get (List.getElem?_eq_getElem hi)
    exact ⟨vs, v, s H f, e⟩
  · obtain ⟨e1, e2⟩ := y
    subst e1
    refine ⟨.refl _, _, List.getElem?_eq_getElem hi, ?_⟩
    obtain ⟨v, e, r1⟩ := (r.fx f).get (List.getElem?_eq_getElem hi)
    rw [e2 vs (s _ f)] at e; cases e
    exact r1
theorem itok_tup {H1 : Hp} {a : Addr} {vs : List V} {ds : List D} (s : ∀ H, Fx C.T H1 H → SqT C.K H a vs) (r : RpL C H1 ds vs) : ItOk C (Itt C.K a) H1 ds := by
  refine ⟨fun i H f hi => ?_, fun i H x H' f hi y => ?_, fun H f => ⟨vs, s H f, by rw [r.length]; exact Nat.le_refl _⟩⟩
  · obtain ⟨v, e, _⟩ := r.get (List.getElem?_eq_getElem hi)
    exact ⟨vs, v, s H f, e⟩
  · obtain ⟨e1, e2⟩ := y
    subst e1
    refine ⟨.refl _, _, List.getElem?_eq_getElem hi, ?_⟩
    obtain ⟨v, e, r1⟩ := (r.fx f).get (List.getElem?_eq_getElem hi)
    rw [e2 vs (s _ f)] at e; cases e
    exact r1
theorem mi_list {m : SS → O D} (hK : X.K = C.K) (h : ME X C e m) : MI X C tg e (sItL m) := by
  refine ⟨fun E W tk => (pi_list (h.pe E W tk)).imp fun τ H R q => ?_⟩
  rw [show (X.wish E).K = C.K from hK]
  refine (tG_bind (R := fun _ => Rp C) q).mono fun x H1 ⟨d, r1, f1, G, σ, sr, p⟩ => ?_
  dsimp only at p
  split at p
  · rename_i ds
    simp only [Rp] at r1
    obtain ⟨a, vs, rfl, s, r⟩ := r1
    exact ⟨a, rfl, ⟨vs, lst_stands s (Fx.refl (T := C.T) _)⟩, p _ H1 (itok_list (fun H f => lst_stands s f) r) sr (.refl _)⟩
  · exact p.elim
theorem mi_tup {m : SS → O D} (hK : X.K = C.K) (h : ME X C e m) : MI X C tg e (sItT m) := by
  refine ⟨fun E W tk => (pi_tup (h.pe E W tk)).imp fun τ H R q => ?_⟩
  rw [show (X.wish E).K = C.K from hK]
  refine (tG_bind (R := fun _ => Rp C) q).mono fun x H1 ⟨d, r1, f1, G, σ, sr, p⟩ => ?_
  dsimp only at p
  split at p
  · rename_i ds
    simp only [Rp] at r1
    obtain ⟨a, vs, rfl, s, r⟩ := r1
    exact ⟨a, rfl, ⟨vs, s⟩, p _ H1 (itok_tup (fun H f => TL.SqT.fx f s) r) sr (.refl _)⟩
  · exact p.elim
theorem mi_str {m : SS → O D} (h : ME X C e m) : MI X C tg e (sItS m) := by
  refine ⟨fun E W tk => (pi_str (h.pe E W tk)).imp fun τ H R q => ?_⟩
  refine (tG_bind (R := fun _ => Rp C) q).mono fun x H1 ⟨d, r1, f1, G, σ, sr, p⟩ => ?_
  dsimp only at p
  split at p
  · rename_i y
    refine ⟨y, r1.rb.str, p _ H1 ⟨fun i H f hi => ?_, fun i H v H' f hi q => ?_, fun H f => ?_⟩ sr (.refl _)⟩
    · show i < y.cps.size
      simpa using hi
    · obtain ⟨e1, c, e2, e3⟩ := q
      subst e1
      have e2 : y.cps[i]? = some c := e2
      refine ⟨.refl _, .str ⟨#[c]⟩, ?_, by subst e3; exact .s⟩
      rw [List.getElem?_map, Array.getElem?_toList, e2]; rfl
    · show y.cps.size ≤ _
      simp
  · exact p.elim
/-- range(b), range(a, b) of small ints -/
def R62 (i : Int) : Bool := decide (-4611686018427387904 ≤ i) && decide (i < 4611686018427387904)
theorem R62_iff {i : Int} (h : R62 i = true) : -(2 ^ 62) ≤ i ∧ i < 2 ^ 62 := by
  simp only [R62, Bool.and_eq_true, decide_eq_true_eq] at h
  omega
def upTo (lo : Int) (n : Nat) : List D := (List.range n).map fun i : Nat => .int (lo + (i : Int))
def sRng1 (m : SS → O D) : SS → O (List D) := fun σ => (m σ).bind fun d σ1 => match d with
  | .int j => if R62 j then .ok (upTo 0 j.toNat) σ1 else .bad
  | _ => .bad
def sRng2 (m n : SS → O D) : SS → O (List D) := fun σ => (m σ).bind fun d σ1 => (n σ1).bind fun d2 σ2 => match d, d2 with
  | .int i, .int j => if R62 i && R62 j then .ok (upTo i (j - i).toNat) σ2 else .bad
  | _, _ => .bad
theorem itok_range {H1 : Hp} {lo : Int} {n : Nat} : ItOk C (Itr lo n) H1 (upTo lo n) := by
  have hl : (upTo lo n).length = n := by simp [upTo]
  refine ⟨fun i H f hi => by rw [hl] at hi; exact hi, fun i H x H' f hi y => ?_, fun H f => by rw [hl]; exact Nat.le_refl _⟩
  obtain ⟨e1, e2⟩ := y
  subst e1 e2
  rw [hl] at hi
  refine ⟨.refl _, .int (lo + i), ?_, .i⟩
  unfold upTo
  rw [List.getElem?_map, List.getElem?_range hi]; rfl
theorem mi_range1 {a : Expr} {m : SS → O D} (hg : Gl X "range") (hm : X.mg "range" = none) (h : ME X C a m) (hs : starEach [a] X.env = [(false, eval a X.env)] := by rfl) : MI X C tg (.Call (.Name "range" p1) [a] [] pos) (sRng1 m) := by
  refine ⟨fun E W tk => (pi_range1 (X := X.wish E) hg hm (pa_cons (h.pe E W tk) pa_nil hs) hs).imp fun τ H R q => ?_⟩
  refine (tG_bind (R := fun _ => Rp C) q).mono fun x H1 ⟨d, r1, f1, G, σ, sr, p⟩ => ?_
  dsimp only at p
  split at p
  · rename_i j
    split at p
    · rename_i hj
      obtain ⟨h1, h2⟩ := R62_iff hj
      have := r1.rb.int; subst this
      exact ⟨j, rfl, h1, h2, p _ H1 itok_range sr (.refl _)⟩
    · exact p.elim
  · exact p.elim
theorem mi_range2 {a b : Expr} {m n : SS → O D} (hg : Gl X "range") (hm : X.mg "range" = none) (h : ME X C a m) (g : ME X C b n) (hs : starEach [a, b] X.env = [(false, eval a X.env), (false, eval b X.env)] := by rfl) (hs2 : starEach [b] X.env = [(false, eval b X.env)] := by rfl) :
    MI X C tg (.Call (.Name "range" p1) [a, b] [] pos) (sRng2 m n) := by
  refine ⟨fun E W tk => (pi_range2 (X := X.wish E) hg hm (pa_cons (h.pe E W tk) (pa_cons (g.pe E W tk) pa_nil hs2) (by rw [hs2]; exact hs)) hs hs2).imp fun τ H R q => ?_⟩
  refine (tG_bind (R := fun _ => Rp C) q).mono fun x H1 ⟨d, r1, f1, q1⟩ => ?_
  refine (tG_bind (R := fun _ => Rp C) q1).mono fun y H2 ⟨d2, r2, f2, G, σ, sr, p⟩ => ?_
  cases d with
  | int i =>
    cases d2 with
    | int j =>
      dsimp only at p
      split at p
      · rename_i hj
        rw [Bool.and_eq_true] at hj
        obtain ⟨h1, h2⟩ := R62_iff hj.1
        obtain ⟨h3, h4⟩ := R62_iff hj.2
        have := r1.rb.int; subst this
        have := r2.rb.int; subst this
        exact ⟨i, j, rfl, ⟨h1, h2, h3, h4⟩, p _ H2 itok_range sr (.refl _)⟩
      · exact p.elim
    | _ => exact p.elim
  | _ => exact p.elim
/-- enumerate of a list -/
def num (ds : List D) : List D := ds.mapIdx fun i d => .tup [.int (i : Nat), d]
def sEnum (m : SS → O D) : SS → O (List D) := fun σ => (m σ).bind fun d σ1 => match d with
  | .lst ds => .ok (num ds) σ1
  | _ => .bad
theorem itok_enum {H1 : Hp} {a : Addr} {vs : List V} {ds : List D} (s : ∀ H, Fx C.T H1 H → SqL C.K H a vs) (r : RpL C H1 ds vs) : ItOk C (Ite C.K a) H1 (num ds) := by
  have hl : (num ds).length = ds.length := by simp [num]
  refine ⟨fun i H f hi => ?_, fun i H x H' f hi y => ?_, fun H f => ⟨vs, s H f, by rw [hl, r.length]; exact Nat.le_refl _⟩⟩
  · rw [hl] at hi
    obtain ⟨v, e, _⟩ := r.get (List.getElem?_eq_getElem hi)
    exact ⟨vs, v, s H f, e⟩
  · rw [hl] at hi
    obtain ⟨T, z, e1, e2, e3, e4⟩ := y
    subst e1 e3
    have sm : Same H (upd H T (.tup [.int (i : Nat), z])) := same_new e2
    obtain ⟨v, e, r1⟩ := (r.fx f).get (List.getElem?_eq_getElem hi)
    rw [e4 vs (s _ f)] at e; cases e
    refine ⟨sm, .tup [.int (i : Nat), ds[i]], ?_, rp_tup (SqT.of upd_same) (.cons .i (.cons (r1.fx (.of_same sm)) .nil))⟩
    unfold num
    rw [List.getElem?_mapIdx, List.getElem?_eq_getElem hi]; rfl
theorem mi_enum {elts : List Expr} {kk : Nat} {tpos : Pos} {a : Expr} {m : SS → O D} (hK : X.K = C.K) (hg : Gl X "enumerate") (hm : X.mg "enumerate" = none) (h : ME X C a m) (hs : starEach [a] X.env = [(false, eval a X.env)] := by rfl) :
    MI X C (.Tuple elts kk tpos) (.Call (.Name "enumerate" p1) [a] [] pos) (sEnum m) := by
  refine ⟨fun E W tk => (pi_enum (X := X.wish E) hg hm (pa_cons (h.pe E W tk) pa_nil hs) hs).imp fun τ H R q => ?_⟩
  rw [show (X.wish E).K = C.K from hK]
  refine (tG_bind (R := fun _ => Rp C) q).mono fun x H1 ⟨d, r1, f1, G, σ, sr, p⟩ => ?_
  dsimp only at p
  split at p
  · rename_i ds
    simp only [Rp] at r1
    obtain ⟨b, vs, rfl, s, r⟩ := r1
    exact ⟨b, vs, rfl, lst_stands s (Fx.refl (T := C.T) _), p _ H1 (itok_enum (fun H f => lst_stands s f) r) sr (.refl _)⟩
  · exact p.elim
end

/-! ### for, while -/
def sForL (g : D → SS → Option SS) (b : SS → OS) : List D → SS → OS
  | [], σ => .nx σ
  | d :: ds, σ => match g d σ with
    | some σ1 => match b σ1 with
      | .nx σ2 => sForL g b ds σ2
      | .ct σ2 => sForL g b ds σ2
      | .bk σ2 => .nx σ2
      | o => o
    | none => .bad
def sFor (m : SS → O (List D)) (g : D → SS → Option SS) (b : SS → OS) : SS → OS := fun σ => (m σ).bindS fun ds σ1 => sForL g b ds σ1
def sWhile (c : SS → O Bool) (b : SS → OS) : Nat → SS → OS
  | 0, _ => .bad
  | n + 1, σ => (c σ).bindS fun k σ1 => if k = true then match b σ1 with
    | .nx σ2 => sWhile c b n σ2
    | .ct σ2 => sWhile c b n σ2
    | .bk σ2 => .nx σ2
    | o => o else .nx σ1
section
variable {X : Cx} {C : Cn} {pos : Pos}
theorem ms_for {tg iter : Expr} {body : List Stmt} {m : SS → O (List D)} {g : D → SS → Option SS} {b : SS → OS} {ws : List Nat} (hc : X.calm = true) (hi : MI X C tg iter m) (hg : MG X C tg ws g) (hb : MSs X C body b)
    (hs : ∀ x, foldedSetIterable iter X.env x = pure x := by intro _; rfl) : MS X C (.For tg iter body [] pos) (sFor m g b) := by
  refine ⟨fun E W tk pw => (ps_for (X := X.wish E) pw hc (hi.pi E W tk) (hg.pg E) (hb.ps E W tk pw) hs).imp fun D' τ H q => ?_⟩
  refine (tSt_bind (R := fun _ H ds J => ItOk C J H ds) q).mono fun J H1 ⟨ds, jo, f1, G, σ, sr, p⟩ => ?_
  refine ⟨fun i k τ H => k = ds.length - i ∧ i ≤ ds.length ∧ ∃ σ, SR C G H σ τ ∧ Fx C.T H1 H ∧ PostS C W G τ H (sForL g b (ds.drop i) σ) D', ⟨ds.length, by simp, Nat.zero_le _, σ, sr, .refl _, by simpa using p⟩, ?_⟩
  rintro i k τ2 H2 ⟨rfl, hi, σ2, s2, f2, p2⟩
  by_cases hlt : i < ds.length
  · refine .inr ⟨jo.1 i H2 f2 hlt, fun τ' H' => ∃ σ', SR C G H' σ' τ' ∧ Fx C.T H1 H' ∧ PostS C W G τ' H' (sForL g b (ds.drop (i + 1)) σ') D', fun τ' H' n => ⟨ds.length - (i + 1), by omega, rfl, hlt, n⟩, fun x H3 y => ?_⟩
    obtain ⟨sm, d, e, rd⟩ := jo.2.1 i H2 x H3 f2 hlt y
    have ed : ds.drop i = d :: ds.drop (i + 1) := by
      rw [List.drop_eq_getElem_cons hlt]
      rw [List.getElem?_eq_getElem hlt] at e
      cases e; rfl
    rw [ed] at p2
    have p2 : PostS C W G τ2 H2 (match g d σ2 with
      | some σ1 => match b σ1 with
        | .nx σ2 => sForL g b (ds.drop (i + 1)) σ2
        | .ct σ2 => sForL g b (ds.drop (i + 1)) σ2
        | .bk σ2 => .nx σ2
        | o => o
      | none => .bad) D' := p2
    have s3 := s2.same sm
    cases eg : g d σ2 with
    | none => rw [eg] at p2; exact p2.elim
    | some σ3 =>
      rw [eg] at p2
      dsimp only at p2
      refine ⟨d, G, σ2, σ3, rd, s3, eg, fun τ3 s4 _ => ⟨G, σ3, s4, ?_⟩⟩
      have f3 : Fx C.T H1 H3 := f2.trans (.of_same sm)
      have p3 := p2.fx (τ' := τ3) (.of_same sm)
      cases eb : b σ3 with
      | bad => rw [eb] at p3; exact p3
      | nx σ4 => rw [eb] at p3; exact fun τ4 H4 q1 q2 => ⟨σ4, q1, f3.trans q2, p3.fx q2⟩
      | ct σ4 => rw [eb] at p3; exact fun τ4 H4 q1 q2 => ⟨σ4, q1, f3.trans q2, p3.fx q2⟩
      | bk σ4 => rw [eb] at p3; exact fun τ4 H4 q1 q2 => p3 τ4 H4 q1 q2
      | rt v σ4 => rw [eb] at p3; exact p3
      | rtm v σ4 => rw [eb] at p3; exact p3
      | ex x σ4 => rw [eb] at p3; exact p3
  · have e : i = ds.length := by omega
    subst e
    rw [List.drop_length] at p2
    exact .inl ⟨jo.2.2 H2 f2, p2 τ2 H2 s2 (.refl _)⟩
theorem ms_while {c : Expr} {body : List Stmt} {mc : SS → O Bool} {b : SS → OS} (n : Nat) (hc : MT X C c mc) (hb : MSs X C body b) : MS X C (.While c body [] pos) (sWhile mc b n) := by
  refine ⟨fun E W tk pw => (ps_while (X := X.wish E) pw (hc.pt E W tk) (hb.ps E W tk pw)).imp fun D' τ H ⟨G, σ, sr, p⟩ => ?_⟩
  refine ⟨fun k τ' H' => ∃ σ', SR C G H' σ' τ' ∧ PostS C W G τ' H' (sWhile mc b k σ') D', ⟨n, σ, sr, p⟩, ?_⟩
  rintro k τ1 H1 ⟨σ1, s1, p1⟩
  cases k with
  | zero => exact p1.elim
  | succ k =>
    have q : tSt C W (sWhile mc b (k + 1)) D' τ1 H1 := ⟨G, σ1, s1, p1⟩
    refine ⟨G, σ1, s1, ?_⟩
    have p1 : PostS C W G τ1 H1 ((mc σ1).bindS fun k' σ1 => if k' = true then match b σ1 with
      | .nx σ2 => sWhile mc b k σ2
      | .ct σ2 => sWhile mc b k σ2
      | .bk σ2 => .nx σ2
      | o => o else .nx σ1) D' := p1
    cases e : mc σ1 with
    | bad => rw [e] at p1; exact p1
    | ex x σ' => rw [e] at p1; exact fun cls d H' a b c => p1 cls d τ1 H' a b c
    | ok k' σ2 =>
      rw [e] at p1
      intro v H2 ev s2 f2
      subst ev
      cases v with
      | false => exact iteF (p1 τ1 H2 s2 f2)
      | true =>
        have p2 : PostS C W G τ1 H1 (match b σ2 with
          | .nx σ2 => sWhile mc b k σ2
          | .ct σ2 => sWhile mc b k σ2
          | .bk σ2 => .nx σ2
          | o => o) D' := p1
        refine iteT ⟨fun τ' H' => ∃ σ', SR C G H' σ' τ' ∧ PostS C W G τ' H' (sWhile mc b k σ') D', fun τ' H' nn => ⟨k, Nat.lt_succ_self k, nn⟩, G, σ2, s2, ?_⟩
        have p3 := p2.fx (τ' := τ1) f2
        cases eb : b σ2 with
        | bad => rw [eb] at p3; exact p3
        | nx σ4 => rw [eb] at p3; exact fun τ4 H4 q1 q2 => ⟨σ4, q1, p3.fx q2⟩
        | ct σ4 => rw [eb] at p3; exact fun τ4 H4 q1 q2 => ⟨σ4, q1, p3.fx q2⟩
        | bk σ4 => rw [eb] at p3; exact p3
        | rt v σ4 => rw [eb] at p3; exact p3
        | rtm v σ4 => rw [eb] at p3; exact p3
        | ex x σ4 => rw [eb] at p3; exact p3
end
end TL

set_option Elab.async false
set_option linter.all false
set_option maxRecDepth 100000
set_option maxHeartbeats 4000000
/-! TL9: things that change: lists, dicts; new things handed back; calls of built-in functions. -/
namespace TL
open PySem PySem.Spec PyProof.Rows L2

/-! ### a new thing -/
def PostC (C : Cn) (W : WX) (τ : L2.St) (G : Gh) (H : Hp) (o : O MO) (Q : VK) : Prop := match o with
  | .bad => False
  | .ok m σ' => ∀ a u H', H' a = some u → RM C H' m a → G.hp a = none → SR C ⟨upd G.hp a u, G.at_⟩ H' σ' τ → Fx C.T H H' → Q (.ref a) H'
  | .ex x σ' => ∀ cls d H', RX C H' x cls d → SR C G H' σ' τ → Fx C.T H H' → W cls d τ H'
def tC' (C : Cn) (W : WX) (m : SS → O MO) : TE := fun τ H Q => ∃ G σ, SR C G H σ τ ∧ PostC C W τ G H (m σ) Q
structure MC (X : Cx) (C : Cn) (e : Expr) (m : SS → O MO) : Prop where
  pe : ∀ E W, Takes (X.wish E) W → PE (X.wish E) e (tC' C W m)
theorem tC_bind {β γ : Type} {R : L2.St → Hp → β → γ → Prop} {C : Cn} {W : WX} {m : SS → O β} {f : β → SS → O MO} {τ : L2.St} {H : Hp} {Q : VK} (h : tC' C W (fun σ => (m σ).bind f) τ H Q) :
    tG R C W m τ H fun x H1 => ∃ b, R τ H1 b x ∧ Fx C.T H H1 ∧ tC' C W (f b) τ H1 Q := by
  obtain ⟨G, σ, r, p⟩ := h
  have p : PostC C W τ G H ((m σ).bind f) Q := p
  refine ⟨G, σ, r, ?_⟩
  cases e : m σ with
  | bad => rw [e] at p; exact p
  | ok b σ' =>
    rw [e] at p
    have p : PostC C W τ G H (f b σ') Q := p
    show ∀ v H', R τ H' b v → SR C G H' σ' τ → Fx C.T H H' → _
    intro v H' a b1 c
    refine ⟨b, a, c, G, σ', b1, ?_⟩
    cases e2 : f b σ' with
    | bad => rw [e2] at p; exact p
    | ok b2 σ2 => rw [e2] at p; exact fun a2 o2 H2 h1 h2 h3 h4 c2 => p a2 o2 H2 h1 h2 h3 h4 (c.trans c2)
    | ex x2 σ2 => rw [e2] at p; exact fun cl d H2 a2 b2 c2 => p cl d H2 a2 b2 (c.trans c2)
  | ex x σ' => rw [e] at p; exact p
/-- more is to stay: a thing that is in no slot -/
theorem SR.addG2 {C : Cn} {G : Gh} {H : Hp} {σ : SS} {τ : L2.St} {p : Addr} {o : HO} (h : SR C G H σ τ) (hp : H p = some o) (no : notTbl o = true) (hn : ∀ (i : Nat) (sd : SD) (v : V) (F : List Addr), σ[i]? = some (some sd) → τ[i]? = some (some v) → RSD C G H sd v F → p ∉ F) : SR C ⟨upd G.hp p o, G.at_⟩ H σ τ := by
  obtain ⟨l, g, nt, tb, F, h1, h2, h3, h4⟩ := h
  have nF : ∀ i, p ∉ F i := fun i hi => by
    cases e : σ[i]? with
    | none => rw [h4 i fun sd q => by rw [e] at q; cases q] at hi; cases hi
    | some s =>
      cases s with
      | none => rw [h4 i fun sd q => by rw [e] at q; cases q] at hi; cases hi
      | some sd =>
        obtain ⟨v, e1, r⟩ := h1 i sd e
        exact hn i sd v (F i) e e1 r hi
  refine ⟨l, fun a u q => ?_, fun a u q => ?_, tb, F, fun i sd q => ?_, h2, fun i a ha => ?_, h4⟩
  · have q : upd G.hp p o a = some u := q
    by_cases e : a = p
    · subst e
      rw [upd_same] at q; cases q; exact hp
    · rw [upd_ne e] at q; exact g a u q
  · have q : upd G.hp p o a = some u := q
    by_cases e : a = p
    · subst e
      rw [upd_same] at q; cases q; exact no
    · rw [upd_ne e] at q; exact nt a u q
  · obtain ⟨v, e1, r⟩ := h1 i sd q
    exact ⟨v, e1, by cases sd <;> exact r⟩
  · show upd G.hp p o a = none
    rw [upd_ne (show a ≠ p by rintro rfl; exact nF i ha)]
    exact h3 i a ha
/-- what was new ahead of a call is in no slot behind it -/
theorem putBack_apart {C : Cn} {G : Gh} {H H' : Hp} {σ : SS} {τ : L2.St} {p : Addr} {as : List AV} {outs : List SD} (sr : SR C G H σ τ) (hn : ∀ u, H p = some u → notTbl u = false) : ∀ (i : Nat) (sd : SD) (v : V) (F : List Addr), (putBack σ as outs)[i]? = some (some sd) → τ[i]? = some (some v) → RSD C G H' sd v F → p ∉ F := fun i sd v F e ev r hp => by
  rw [putBack_get] at e
  cases q : σ[i]? with
  | none => rw [q] at e; cases e
  | some s =>
    rw [q] at e
    have e : repl (found i as outs) s = some sd := Option.some.inj e
    cases s with
    | none => cases hf : found i as outs with
      | none => rw [hf] at e; cases e
      | some m => rw [hf] at e; cases e
    | some sd0 =>
      obtain ⟨v', F', e1, r1⟩ := sr.at q
      rw [ev] at e1; cases e1
      have shape : (∃ m m', sd0 = .own m ∧ sd = .own m') ∨ (∃ k m m', sd0 = .io k m ∧ sd = .io k m') ∨ ∃ d, sd = .val d := by
        cases hf : found i as outs with
        | none =>
          rw [hf, repl_none] at e; cases e
          cases sd with
          | val d => exact .inr (.inr ⟨d, rfl⟩)
          | own m => exact .inl ⟨m, m, rfl, rfl⟩
          | io k m => exact .inr (.inl ⟨k, m, m, rfl, rfl⟩)
        | some m =>
          rw [hf] at e
          cases sd0 with
          | val d => cases e; exact .inr (.inr ⟨d, rfl⟩)
          | own m0 => cases e; exact .inl ⟨m0, m, rfl, rfl⟩
          | io k m0 => cases e; exact .inr (.inl ⟨k, m0, m, rfl, rfl⟩)
      rcases shape with ⟨m, m', rfl, rfl⟩ | ⟨k, m, m', rfl, rfl⟩ | ⟨d, rfl⟩
      · obtain ⟨a, ea, eF, _⟩ := r
        obtain ⟨a', ea', eF', rm⟩ := r1
        rw [ea] at ea'; cases ea'
        rw [eF, List.mem_singleton] at hp
        obtain ⟨o, z, _⟩ := rm.there
        have z2 := RSD.nt (G := G) (sd := .own m) (v := .ref a) (F := [a]) ⟨a, rfl, rfl, rm⟩ (List.mem_singleton.mpr rfl) z
        rw [hn o (hp ▸ z)] at z2; cases z2
      · obtain ⟨ea, eF, _⟩ := r
        obtain ⟨_, _, rm⟩ := r1
        rw [eF, List.mem_singleton] at hp
        obtain ⟨o, z, _⟩ := rm.there
        have z2 := RSD.nt (G := G) (sd := .own m) (v := .ref (G.at_ k)) (F := [G.at_ k]) ⟨_, rfl, rfl, rm⟩ (List.mem_singleton.mpr rfl) z
        rw [hn o (hp ▸ z)] at z2; cases z2
      · rw [r.2] at hp; cases hp
section
variable {X : Cx} {C : Cn} {pos : Pos} {e : Expr}
/-- x = a new thing -/
def sOwnM (i : Nat) (m : SS → O MO) : SS → OS := fun σ => (m σ).bindS fun o σ1 => .nx (σ1.set i (some (.own o)))
theorem ms_ownM {m : SS → O MO} (i : Nat) {x : Str} {pos' : Pos} (hN : X.N.Nodup) (hi : X.N[i]? = some x) (hx : Loc X.env.scope x) (h : MC X C e m) (hs : swapsWith e (some (.Name x pos')) pos.line X.env = pure false := by rfl)
    (hf : X.fn x = true ∨ X.env.scope.names.lookup x = some .local := by first | exact .inl rfl | exact .inr rfl | assumption) : MS X C (.Assign [.Name x pos'] e pos) (sOwnM i m) := by
  refine ⟨fun E W tk pw => (ps_set (X := X.wish E) hN hi hx (h.pe E W tk) hs hf).imp fun D' τ H ⟨G, σ, r, p⟩ => ⟨G, σ, r, ?_⟩⟩
  have p : PostS C W G τ H ((m σ).bindS fun o σ1 => .nx (σ1.set i (some (.own o)))) D' := p
  cases e : m σ with
  | bad => rw [e] at p; exact p
  | ex x σ' => rw [e] at p; exact fun cls d H' a b c => p cls d τ H' a b c
  | ok o σ' =>
    rw [e] at p
    exact fun a u H' h1 h2 h3 h4 f => p _ H' (h4.setOwn h3 h2) f
def sRetM (m : SS → O MO) : SS → OS := fun σ => (m σ).bindS fun o σ1 => .rtm o σ1
theorem ms_retM {m : SS → O MO} (h : MC X C e m) : MS X C (.Return (some e) pos) (sRetM m) := by
  refine ⟨fun E W tk pw => (ps_ret (h.pe E W tk)).imp fun D' τ H ⟨G, σ, r, p⟩ => ⟨G, σ, r, ?_⟩⟩
  have p : PostS C W G τ H ((m σ).bindS fun o σ1 => .rtm o σ1) D' := p
  cases e : m σ with
  | bad => rw [e] at p; exact p
  | ex x σ' => rw [e] at p; exact fun cls d H' a b c => p cls d τ H' a b c
  | ok o σ' =>
    rw [e] at p
    exact fun a u H' h1 h2 h3 h4 f => p a u τ H' h1 h2 h3 h4 f
/-- a call that hands back a new thing -/
def sCallM (F : FT) (ds : List D) (m : SS → O (List AV)) : SS → O MO := fun σ => (m σ).bind fun as σ1 => if (slots as).Nodup then match argsOf σ1 as with
  | some args => match F (args ++ ds.map SD.val) with
    | .okm o outs => .ok o (putBack σ1 as outs)
    | .ex x outs => .ex x (putBack σ1 as outs)
    | _ => .bad
  | none => .bad else .bad
variable {k : Nat} {f : Addr} {fd : FuncData} {ps : List Str} {F : FT} {dvs : List V} {ds : List Value} {dD : List D} {x : Str} {p : Pos} {es : List Expr}
theorem callM_core {W : WX} {τ : L2.St} {H : Hp} {Q : VK} {m : SS → O (List AV)} (hd : ∀ H, RpL C H dD dvs) (h : tC' C W (sCallM F dD m) τ H Q) : tG (RAVs C) C W m τ H fun xs H1 => spT C F (xs ++ dvs) H1 Q fun cls d H' => W cls d τ H' := by
  refine (tC_bind (R := RAVs C) h).mono fun xs H1 ⟨as, ra, f1, G, σ, sr, p⟩ => ?_
  dsimp only at p
  split at p
  · rename_i nd
    split at p
    · rename_i args ea
      refine ⟨args ++ dD.map SD.val, adrs τ as, args_r sr ra nd ea (hd H1), ?_⟩
      cases e : F (args ++ dD.map SD.val) with
      | bad => rw [e] at p; exact p
      | ok d outs => rw [e] at p; exact p.elim
      | okm o outs =>
        rw [e] at p
        refine fun a u H' ha rm hn rk => p a u H' ha rm ?_ ((sr_back sr ra ea rk).addG2 ha (rm.nt ha) (putBack_apart sr hn)) rk.fx
        cases q : G.hp a with
        | none => rfl
        | some z =>
          have z1 := hn z (sr.gr a z q)
          rw [sr.nt a z q] at z1; cases z1
      | ex x outs => rw [e] at p; exact fun cls dd H' rx rk => p cls dd H' rx (sr_back sr ra ea rk) rk.fx
    · exact p.elim
  · exact p.elim
theorem mc_call {m : SS → O (List AV)} (Fn : FnT X.prog X.w X.K X.mg X.base C k f fd ps F) (hr : TRoom k X.A) (hg : Gl X x) (hm : X.mg x = some (.ref f)) (hk : PySem.W.keepIn X.K (.ref f) = true) (hb : Binds X.K fd ps ds) (hd : Vals dvs ds) (hdd : ∀ H, RpL C H dD dvs)
    (ha : MAV X C (e :: es) m) (hdb : (x == ("__debug__" : Str)) = false := by decide) (he : starEach (e :: es) X.env = (false, eval e X.env) :: starEach es X.env := by rfl) (hpl : (backTo pos (starEach es X.env)).any (·.1) = false := by rfl) :
    MC X C (.Call (.Name x p) (e :: es) [] pos) (sCallM F dD m) := by
  refine ⟨fun E W tk => ⟨fun pins s τ H Q I h => ?_⟩⟩
  refine wpAny_Call_Name_kw (ld_glob I hg hm ?_ hdb)
  refine PySem.W.callWith_K (h₀ := X.base) I.ok.mod.kin hk (thn ((ha.pa E W tk).run pos pins s τ H _ I (callM_core hdd h)) fun us s1 ⟨vs, H1, I1, r, q⟩ => ⟨I1.kIn, ?_⟩) he hpl
  exact run_fnT Fn hr hb hd tk I1 r q
/-- a new list -/
def sLst (m : SS → O (List D)) : SS → O MO := fun σ => (m σ).bind fun ds σ1 => .ok (.lst ds) σ1
theorem mc_lst {m : SS → O (List D)} (h : MF X C e m) : MC X C e (sLst m) := by
  refine ⟨fun E W tk => (h.pe E W tk).imp fun τ H Q ⟨G, σ, sr, p⟩ => ⟨G, σ, sr, ?_⟩⟩
  have p : PostC C W τ G H ((m σ).bind fun ds σ1 => .ok (.lst ds) σ1) Q := p
  cases e : m σ with
  | bad => rw [e] at p; exact p
  | ex x σ' => rw [e] at p; exact p
  | ok ds σ' =>
    rw [e] at p
    exact fun a vs H' h1 h2 h3 h4 f => p a _ H' h1 ⟨vs, h1, h2⟩ h3 h4 f
end

/-! ### dicts -/
def dget : List (Key × D) → Key → Option D
  | [], _ => none
  | p :: r, k => if p.1 = k then some p.2 else dget r k
def dput (kvs : List (Key × D)) (k : Key) (d : D) : List (Key × D) := if (dget kvs k).isSome then kvs.map fun p => if p.1 = k then (p.1, d) else p else kvs ++ [(k, d)]
theorem dget_rp {C : Cn} {H : Hp} {k : Key} : ∀ {kvs : List (Key × D)} {kvV : List (Key × V)}, kvs.map (·.1) = kvV.map (·.1) → RpL C H (kvs.map (·.2)) (kvV.map (·.2)) → (∀ d, dget kvs k = some d → ∃ v, valV kvV k = some v ∧ Rp C H d v) ∧ (dget kvs k = none → valV kvV k = none)
  | [], [], _, _ => ⟨fun _ h => (by cases h), fun _ => rfl⟩
  | [], _ :: _, h, _ => by simp at h
  | _ :: _, [], h, _ => by simp at h
  | p :: r, q :: s, h, hr => by
    simp only [List.map_cons, List.cons.injEq] at h
    simp only [List.map_cons, RpL] at hr
    obtain ⟨v, vs, e, r1, r2⟩ := hr
    have e1 : q.2 = v := (List.cons.inj e).1
    have e2 : s.map (·.2) = vs := (List.cons.inj e).2
    rw [← e2] at r2
    obtain ⟨i1, i2⟩ := dget_rp (k := k) h.2 r2
    refine ⟨fun d hd => ?_, fun hd => ?_⟩
    · unfold dget at hd
      split at hd
      · rename_i hk
        cases hd
        exact ⟨q.2, valV_pos (h.1 ▸ hk), e1 ▸ r1⟩
      · rename_i hk
        obtain ⟨v', f1, f2⟩ := i1 d hd
        exact ⟨v', by rw [valV_neg (h.1 ▸ hk)]; exact f1, f2⟩
    · unfold dget at hd
      split at hd
      · cases hd
      · rename_i hk
        rw [valV_neg (h.1 ▸ hk)]; exact i2 hd
theorem dmap_rp {C : Cn} {H : Hp} {k : Key} {d : D} {v : V} (rd : Rp C H d v) : ∀ {kvs : List (Key × D)} {kvV : List (Key × V)}, kvs.map (·.1) = kvV.map (·.1) → RpL C H (kvs.map (·.2)) (kvV.map (·.2)) →
    (kvs.map fun p => if p.1 = k then (p.1, d) else p).map (·.1) = (kvV.map fun p => if p.1 = k then (p.1, v) else p).map (·.1) ∧ RpL C H ((kvs.map fun p => if p.1 = k then (p.1, d) else p).map (·.2)) ((kvV.map fun p => if p.1 = k then (p.1, v) else p).map (·.2))
  | [], [], _, _ => ⟨rfl, .nil⟩
  | [], _ :: _, h, _ => by simp at h
  | _ :: _, [], h, _ => by simp at h
  | p :: r, q :: s, h, hr => by
    simp only [List.map_cons, List.cons.injEq] at h
    simp only [List.map_cons, RpL] at hr
    obtain ⟨w, vs, e, r1, r2⟩ := hr
    have e1 : q.2 = w := (List.cons.inj e).1
    have e2 : s.map (·.2) = vs := (List.cons.inj e).2
    rw [← e2] at r2
    obtain ⟨i1, i2⟩ := dmap_rp rd (k := k) h.2 r2
    simp only [List.map_cons]
    by_cases hk : p.1 = k
    · have hk2 : q.1 = k := h.1 ▸ hk
      rw [if_pos hk, if_pos hk2]
      exact ⟨by rw [i1, h.1], .cons rd i2⟩
    · have hk2 : ¬ q.1 = k := h.1 ▸ hk
      rw [if_neg hk, if_neg hk2]
      exact ⟨by rw [i1, h.1], .cons (e1 ▸ r1) i2⟩
theorem dput_rp {C : Cn} {H : Hp} {k : Key} {d : D} {v : V} {kvs : List (Key × D)} {kvV : List (Key × V)} (rd : Rp C H d v) (h : kvs.map (·.1) = kvV.map (·.1)) (hr : RpL C H (kvs.map (·.2)) (kvV.map (·.2))) :
    (dput kvs k d).map (·.1) = (putK kvV k v).map (·.1) ∧ RpL C H ((dput kvs k d).map (·.2)) ((putK kvV k v).map (·.2)) := by
  obtain ⟨g1, g2⟩ := dget_rp (k := k) h hr
  unfold dput putK
  rw [valV_any]
  cases e : dget kvs k with
  | some d0 =>
    obtain ⟨v0, e0, _⟩ := g1 d0 e
    rw [e0]
    exact dmap_rp rd h hr
  | none =>
    rw [g2 e]
    show (kvs ++ [(k, d)]).map (·.1) = (kvV ++ [(k, v)]).map (·.1) ∧ RpL C H ((kvs ++ [(k, d)]).map (·.2)) ((kvV ++ [(k, v)]).map (·.2))
    rw [List.map_append, List.map_append, List.map_append, List.map_append, h]
    exact ⟨rfl, hr.append (.cons rd .nil)⟩
def curD (σ : SS) (i : Nat) : Option (List (Key × D)) := match σ[i]? with
  | some (some (.own (.dct kvs))) => some kvs
  | some (some (.io _ (.dct kvs))) => some kvs
  | _ => none
def curL (σ : SS) (i : Nat) : Option (List D) := match σ[i]? with
  | some (some (.own (.lst ds))) => some ds
  | some (some (.io _ (.lst ds))) => some ds
  | _ => none
section
variable {C : Cn} {G : Gh} {H : Hp} {σ : SS} {τ : L2.St} {i : Nat}
/-- the slot's list, and how it is written -/
theorem SR.curL (sr : SR C G H σ τ) {ds : List D} (e : curL σ i = some ds) : ∃ a vs, τ[i]? = some (some (.ref a)) ∧ H a = some (.lst vs) ∧ RpL C H ds vs ∧
    ∀ ds' vs', RpL C H ds' vs' → Fx C.T H (upd H a (.lst vs')) ∧ SR C G (upd H a (.lst vs')) (put1 σ i (.lst ds')) τ := by
  unfold TL.curL at e
  split at e
  · rename_i ds0 q
    cases e
    obtain ⟨v, F, e1, r⟩ := sr.at q
    obtain ⟨a, rfl, eF, vs, ha, rl⟩ := id r
    refine ⟨a, vs, e1, ha, rl, fun ds' vs' rl' => ?_⟩
    have f : Fx C.T H (upd H a (.lst vs')) := Fx.upd ha rfl
    refine ⟨f, ?_⟩
    have : put1 σ i (.lst ds') = σ.set i (some (.own (.lst ds'))) := by unfold put1; rw [q]
    rw [this]
    exact sr.write q e1 r (by rw [eF]; exact List.mem_singleton.mpr rfl) f ⟨a, rfl, eF, vs', upd_same, rl'.fx f⟩ (fun b hb => hb) eF
  · rename_i k ds0 q
    cases e
    obtain ⟨v, F, e1, r⟩ := sr.at q
    obtain ⟨rfl, eF, vs, ha, rl⟩ := id r
    refine ⟨_, vs, e1, ha, rl, fun ds' vs' rl' => ?_⟩
    have f : Fx C.T H (upd H (G.at_ k) (.lst vs')) := Fx.upd ha rfl
    refine ⟨f, ?_⟩
    have : put1 σ i (.lst ds') = σ.set i (some (.io k (.lst ds'))) := by unfold put1; rw [q]
    rw [this]
    exact sr.write q e1 r (by rw [eF]; exact List.mem_singleton.mpr rfl) f ⟨rfl, eF, vs', upd_same, rl'.fx f⟩ (fun b hb => hb) eF
  · cases e
theorem SR.curD (sr : SR C G H σ τ) {kvs : List (Key × D)} (e : curD σ i = some kvs) : ∃ a kvV, τ[i]? = some (some (.ref a)) ∧ H a = some (.dK kvV) ∧ kvs.map (·.1) = kvV.map (·.1) ∧ RpL C H (kvs.map (·.2)) (kvV.map (·.2)) ∧
    ∀ kvs' kvV', kvs'.map (·.1) = kvV'.map (·.1) → RpL C H (kvs'.map (·.2)) (kvV'.map (·.2)) → Fx C.T H (upd H a (.dK kvV')) ∧ SR C G (upd H a (.dK kvV')) (put1 σ i (.dct kvs')) τ := by
  unfold TL.curD at e
  split at e
  · rename_i ds0 q
    cases e
    obtain ⟨v, F, e1, r⟩ := sr.at q
    obtain ⟨a, rfl, eF, vs, ha, rk, rl⟩ := id r
    refine ⟨a, vs, e1, ha, rk, rl, fun ds' vs' rk' rl' => ?_⟩
    have f : Fx C.T H (upd H a (.dK vs')) := Fx.upd ha rfl
    refine ⟨f, ?_⟩
    have : put1 σ i (.dct ds') = σ.set i (some (.own (.dct ds'))) := by unfold put1; rw [q]
    rw [this]
    exact sr.write q e1 r (by rw [eF]; exact List.mem_singleton.mpr rfl) f ⟨a, rfl, eF, vs', upd_same, rk', rl'.fx f⟩ (fun b hb => hb) eF
  · rename_i k ds0 q
    cases e
    obtain ⟨v, F, e1, r⟩ := sr.at q
    obtain ⟨rfl, eF, vs, ha, rk, rl⟩ := id r
    refine ⟨_, vs, e1, ha, rk, rl, fun ds' vs' rk' rl' => ?_⟩
    have f : Fx C.T H (upd H (G.at_ k) (.dK vs')) := Fx.upd ha rfl
    refine ⟨f, ?_⟩
    have : put1 σ i (.dct ds') = σ.set i (some (.io k (.dct ds'))) := by unfold put1; rw [q]
    rw [this]
    exact sr.write q e1 r (by rw [eF]; exact List.mem_singleton.mpr rfl) f ⟨rfl, eF, vs', upd_same, rk', rl'.fx f⟩ (fun b hb => hb) eF
  · cases e
end
def keyOf : D → Option Key
  | .str x => some (.inr x)
  | .int i => some (.inl i)
  | _ => none
theorem keyOf_rp {C : Cn} {H : Hp} {d : D} {v : V} {k : Key} (r : Rp C H d v) (e : keyOf d = some k) : v = kV k := by
  unfold keyOf at e
  split at e
  · cases e; exact r.rb.str
  · cases e; exact r.rb.int
  · cases e
section
variable {X : Cx} {C : Cn} {pos : Pos} {e e2 : Expr} {x : Str} {p1 pos' : Pos}
/-- x[e] of a dict in a slot -/
def sDget (i : Nat) (m : SS → O D) : SS → O D := fun σ => match curD σ i with
  | some _ => (m σ).bind fun d σ1 => match curD σ1 i, keyOf d with
    | some kvs, some k => ofOpt (dget kvs k) σ1
    | _, _ => .bad
  | none => .bad
theorem me_dget {m : SS → O D} (i : Nat) (hN : X.N[i]? = some x) (hv : Vis X.env.scope x) {n : Nat} (hr : TRoom n X.A) (h : ME X C e m) (hs : NoSl e) (hd : (x == ("__debug__" : Str)) = false := by decide) (hcd : (x == ("__classdict__" : Str)) = false := by decide) :
    ME X C (.Subscript (.Name x p1) e pos) (sDget i m) := by
  refine ⟨fun E W tk => (pe_dget (X := X.wish E) (by have := hr.u64; show X.A.units + 1 < cLine; omega) (pv i hN hv hd hcd) (h.pe E W tk) hs).imp fun τ H Q ⟨G, σ, sr, p⟩ => ?_⟩
  unfold sDget at p
  split at p
  · rename_i kvs0 e0
    obtain ⟨a, kvV, ev, _⟩ := sr.curD e0
    refine ⟨_, ev, ?_⟩
    refine (tG_bind (R := fun _ => Rp C) (f := fun d σ1 => match TL.curD σ1 i, keyOf d with
      | some kvs, some k => ofOpt (dget kvs k) σ1
      | _, _ => .bad) ⟨G, σ, sr, p⟩).mono fun y H1 ⟨d, r, f, G1, σ1, s1, p1⟩ => ?_
    dsimp only at p1
    split at p1
    · rename_i kvs k e1 e2
      obtain ⟨a', kv', ev', ha, rk, rl, _⟩ := s1.curD e1
      rw [ev] at ev'; cases ev'
      cases q : dget kvs k with
      | none => rw [q] at p1; exact p1.elim
      | some d2 =>
        rw [q] at p1
        obtain ⟨v, q1, q2⟩ := (dget_rp rk rl).1 d2 q
        refine ⟨a, v, rfl, ?_, p1 v H1 q2 s1 (.refl _)⟩
        rw [keyOf_rp r e2, ← q1]
        exact DGet.k ha
    · exact p1.elim
  · exact p.elim
/-- x[e] = e2 of a dict in a slot -/
def sDput (i : Nat) (mk mv : SS → O D) : SS → OS := fun σ => (mv σ).bindS fun d σ1 => match curD σ1 i with
  | some _ => (mk σ1).bindS fun kd σ2 => match curD σ2 i, keyOf kd with
    | some kvs, some k => if kvs.length < 1000 then .nx (put1 σ2 i (.dct (dput kvs k d))) else .bad
    | _, _ => .bad
  | none => .bad
theorem ms_dput {mk mv : SS → O D} (i : Nat) (hN : X.N[i]? = some x) (hv : Vis X.env.scope x) {n : Nat} (hr : TRoom n X.A) (hk : ME X C e mk) (h2 : ME X C e2 mv) (hs : swapsWith e2 (some (.Subscript (.Name x p1) e pos')) pos.line X.env = pure false := by rfl) (hd : (x == ("__debug__" : Str)) = false := by decide) (hcd : (x == ("__classdict__" : Str)) = false := by decide) :
    MS X C (.Assign [.Subscript (.Name x p1) e pos'] e2 pos) (sDput i mk mv) := by
  refine ⟨fun E W tk pw => (ps_dput (X := X.wish E) (by have := hr.u64; show X.A.units + 1 < cLine; omega) (pv i hN hv hd hcd) (hk.pe E W tk) (h2.pe E W tk) hs).imp fun D' τ H q => ?_⟩
  refine (tSt_bind (R := fun _ => Rp C) q).mono fun v H1 ⟨d, rd, f1, G, σ, sr, p⟩ => ?_
  dsimp only at p
  split at p
  · rename_i kvs0 e0
    obtain ⟨a, kvV, ev, _⟩ := sr.curD e0
    refine ⟨_, ev, ?_⟩
    refine (tSt_bind (R := fun _ => Rp C) (f := fun kd σ2 => match TL.curD σ2 i, keyOf kd with
      | some kvs, some k => if kvs.length < 1000 then .nx (put1 σ2 i (.dct (dput kvs k d))) else .bad
      | _, _ => .bad) ⟨G, σ, sr, p⟩).mono fun y H2 ⟨kd, r, f2, G1, σ1, s1, p1⟩ => ?_
    dsimp only at p1
    split at p1
    · rename_i kvs k e1 e2
      split at p1
      · rename_i hl
        obtain ⟨a', kv', ev', ha, rk, rl, wr⟩ := s1.curD e1
        rw [ev] at ev'; cases ev'
        obtain ⟨w1, w2⟩ := dput_rp (k := k) (rd.fx f2) rk rl
        obtain ⟨f3, s3⟩ := wr _ _ w1 w2
        have hlen : kv'.length = kvs.length := by have := congrArg List.length rk; simpa using this.symm
        refine ⟨a, _, rfl, ?_, p1 τ _ s3 f3⟩
        rw [keyOf_rp r e2]
        exact DPut.k ha (by rw [LIM_eq]; unfold LIM; omega)
      · exact p1.elim
    · exact p1.elim
  · exact p.elim
/-- a display with written text keys -/
structure MD (X : Cx) (C : Cn) (pos : Pos) (keys : List (Option Expr)) (vals : List Expr) (ks : List Key) (m : SS → O (List D)) : Prop where
  pps : ∀ E W, Takes (X.wish E) W → ∃ trs, PPs (X.wish E) pos keys vals trs ∧ ∀ τ H (Q : List (V × V) → Hp → Prop), tA C W m τ H (fun xs H1 => xs.length = ks.length → Q ((ks.map kV).zip xs) H1) → tPairs trs τ H Q
theorem md_nil : MD X C pos [] [] [] sNil := ⟨fun E W tk => ⟨[], pps_nil, fun τ H Q h => tG_ret h [] .nil rfl⟩⟩
theorem md_cons {z : Str} {j : Nat} {pz : Pos} {v : Expr} {keys : List (Option Expr)} {vals : List Expr} {ks : List Key} {a : SS → O D} {m : SS → O (List D)} (hv : ME X C v a) (h : MD X C pos keys vals ks m) :
    MD X C pos (some (.Constant (.str z) j pz) :: keys) (v :: vals) (.inr z :: ks) (sCons a m) := by
  refine ⟨fun E W tk => ?_⟩
  obtain ⟨trs, h1, h2⟩ := h.pps E W tk
  refine ⟨_, pps_cons pe_str (hv.pe E W tk) h1, fun τ H Q q => ?_⟩
  show tE C W a τ H fun y H2 => tPairs trs τ H2 fun ps H3 => Q ((V.str z, y) :: ps) H3
  refine (tG_bind (R := fun _ => Rp C) q).mono fun y H1 ⟨d, r1, f1, q1⟩ => ?_
  refine h2 τ H1 _ ?_
  refine (tG_bind (R := fun _ => RpL C) q1).mono fun ys H2 ⟨ds, r2, f2, q2⟩ => ?_
  intro hl
  exact tG_ret q2 (y :: ys) (.cons (r1.fx f2) r2) (by simp [hl])
def sDict (ks : List Key) (m : SS → O (List D)) : SS → O MO := fun σ => (m σ).bind fun ds σ1 => if ds.length = ks.length then .ok (.dct (ks.zip ds)) σ1 else .bad
theorem zip_maps {α β : Type} : ∀ {xs : List α} {ys : List β}, ys.length = xs.length → (xs.zip ys).map (·.1) = xs ∧ (xs.zip ys).map (·.2) = ys
  | [], [], _ => ⟨rfl, rfl⟩
  | [], _ :: _, h => by simp at h
  | _ :: _, [], h => by simp at h
  | x :: xs, y :: ys, h => by
    obtain ⟨h1, h2⟩ := zip_maps (xs := xs) (ys := ys) (by simpa using h)
    exact ⟨by rw [List.zip_cons_cons, List.map_cons, h1], by rw [List.zip_cons_cons, List.map_cons, h2]⟩
theorem zip_kV : ∀ (ks : List Key) (xs : List V), (ks.map kV).zip xs = (ks.zip xs).map (fun kv => (kV kv.1, kv.2))
  | [], _ => rfl
  | _ :: _, [] => rfl
  | k :: ks, x :: xs => by simp only [List.map_cons, List.zip_cons_cons, zip_kV ks xs]
theorem mergeK_new : ∀ {more kvs : List (Key × V)}, ((kvs ++ more).map (·.1)).Nodup → mergeK kvs more = kvs ++ more
  | [], kvs, _ => by simp [mergeK]
  | p :: r, kvs, nd => by
    have hn : valV kvs p.1 = none := by
      cases q : valV kvs p.1 with
      | none => rfl
      | some v =>
        have hm : p.1 ∈ kvs.map (·.1) := by
          unfold valV at q
          cases q2 : kvs.find? (fun kv => decide (kv.1 = p.1)) with
          | none => rw [q2] at q; cases q
          | some z =>
            have h1 := List.find?_some q2
            have h2 := List.mem_of_find?_eq_some q2
            exact List.mem_map.mpr ⟨z, h2, by simpa using h1⟩
        rw [List.map_append, List.map_cons] at nd
        have := (List.nodup_append.mp nd).2.2 _ hm p.1 List.mem_cons_self
        exact absurd rfl this
    show mergeK (putK kvs p.1 p.2) r = _
    rw [putK_new p.2 hn]
    have e : kvs ++ p :: r = (kvs ++ [(p.1, p.2)]) ++ r := by simp
    rw [e] at nd ⊢
    exact mergeK_new nd
theorem mc_dict {keys : List (Option Expr)} {vals : List Expr} {ks : List Key} {m : SS → O (List D)} (h : MD X C pos keys vals ks m) (nd : ks.Nodup) (hk : ks.length ≤ 15) (hall : keys.all (·.isSome) = true) (hl : keys.length = vals.length) (h0 : keys ≠ []) (h15 : keys.length ≤ 15) : MC X C (.Dict keys vals pos) (sDict ks m) := by
  refine ⟨fun E W tk => ?_⟩
  obtain ⟨trs, h1, h2⟩ := h.pps E W tk
  refine (pe_disp h1 hall hl h0 h15).imp fun τ H Q ⟨G, σ, sr, p⟩ => fun a ha => ?_
  have sm : Same H (upd H a (.dK [])) := same_new ha
  obtain ⟨nG, sr1⟩ := sr.new (o := .dK []) ha
  have p : PostC C W τ G H ((m σ).bind fun ds σ1 => if ds.length = ks.length then .ok (.dct (ks.zip ds)) σ1 else .bad) Q := p
  refine h2 τ _ _ ⟨⟨upd G.hp a (.dK []), G.at_⟩, σ, sr1, ?_⟩
  cases e : m σ with
  | bad => rw [e] at p; exact p
  | ex x σ' => rw [e] at p; exact fun cls d H' q1 q2 q3 => p cls d H' q1 (q2.freeG nG) ((Fx.of_same sm).trans q3)
  | ok ds σ' =>
    rw [e] at p
    have p : PostC C W τ G H (if ds.length = ks.length then .ok (.dct (ks.zip ds)) σ' else .bad) Q := p
    intro xs H2 r2 s2 f2 hx
    split at p
    · rename_i hds
      have hH : H2 a = some (.dK []) := s2.gr a _ upd_same
      obtain ⟨z1, z2⟩ := zip_maps hx
      obtain ⟨y1, y2⟩ := zip_maps hds
      refine ⟨hH, ks.zip xs, ?_, by rw [List.length_zip]; omega, ?_⟩
      · exact zip_kV ks xs
      · have em : mergeK [] (ks.zip xs) = ks.zip xs := mergeK_new (kvs := []) (by rw [List.nil_append, z1]; exact nd)
        rw [em]
        have f3 : Fx C.T H2 (upd H2 a (.dK (ks.zip xs))) := Fx.upd hH rfl
        refine p a _ _ upd_same ⟨_, upd_same, by rw [y1, z1], by rw [y2, z2]; exact r2.fx f3⟩ nG ?_ ((Fx.of_same sm).trans (f2.trans f3))
        exact ((s2.fz (o2 := .dK (ks.zip xs)) nG f3).addG2 upd_same rfl fun i sd v F e1 e2 r hp => by
          obtain ⟨l, g, _, _, F0, k1, k2, k3, k4⟩ := s2
          obtain ⟨v', e3, r3⟩ := k1 i sd e1
          rw [e2] at e3; cases e3
          have hF : F = F0 i := by
            cases sd with
            | val d => rw [r.2, r3.2]
            | own m => obtain ⟨a, e4, e5, _⟩ := r; obtain ⟨a', e4', e5', _⟩ := r3; rw [e4] at e4'; cases e4'; rw [e5, e5']
            | io k m => rw [r.2.1, r3.2.1]
          rw [hF] at hp
          have z : upd G.hp a (.dK []) a = none := k3 i a hp
          rw [upd_same] at z; cases z)
    · exact p.elim
end
end TL

set_option Elab.async false
set_option linter.all false
set_option maxRecDepth 100000
set_option maxHeartbeats 4000000
/-! TL10: exception classes: Base.__init__(self, text), self.field = value; made, raised. -/
namespace TL
section Made
open PySem PySem.W PySem.Calls PyProof.Rows PySem.HandSPX PySem.Builtin PySem.Builtin.ObjectAttr
/-- own classes ahead, then the built-in ones tl -/
def refsT (tl : List Value) : List Value → Bool
  | .ref a :: r => refsT tl r
  | l => l == tl
theorem refsT_cases {tl : List Value} : ∀ l : List Value, refsT tl l = true → (∃ c r, l = .ref c :: r ∧ refsT tl r = true) ∨ l = tl
  | l, e => by
    unfold refsT at e
    split at e
    · exact .inl ⟨_, _, rfl, e⟩
    · exact .inr (eq_of_beq e)
/-- what a built-in base gives -/
structure BaseK (B newId initId : String) (tl : List Value) : Prop where
  bf : ExcBaseFacts B newId initId tl
  pass : ∀ self, refuseLoop self "__setattr__" tl = pure ()
  obj : tl.contains (.type "object") = true
  ne : tl.isEmpty = false
theorem bk_value : BaseK "ValueError" "ValueError.__new__" "ValueError.__init__" [.type "ValueError", .type "Exception", .type "BaseException", .type "object"] := ⟨F.excBase_ValueError, F.store_ValueError.passes, by decide +kernel, rfl⟩
theorem bk_overflow : BaseK "OverflowError" "OverflowError.__new__" "OverflowError.__init__" [.type "OverflowError", .type "ArithmeticError", .type "Exception", .type "BaseException", .type "object"] := ⟨F.excBase_OverflowError, F.store_OverflowError.passes, by decide +kernel, rfl⟩
theorem bk_lookup : BaseK "LookupError" "LookupError.__new__" "LookupError.__init__" [.type "LookupError", .type "Exception", .type "BaseException", .type "object"] := ⟨F.excBase_LookupError, F.store_LookupError.passes, by decide +kernel, rfl⟩
variable {B newId initId : String} {tl : List Value}
theorem BaseK.passes (b : BaseK B newId initId tl) (self : Value) (l : List Value) (h : refsT tl l = true) : refuseLoop self "__setattr__" l = pure () := by
  induction l with
  | nil =>
    rcases refsT_cases [] h with ⟨c, r, q, _⟩ | q
    · cases q
    · rw [q]; exact b.pass self
  | cons a r ih =>
    rcases refsT_cases (a :: r) h with ⟨c, r', q, hr⟩ | q
    · cases q
      rw [refuseLoop_ref]
      exact ih hr
    · rw [q]; exact b.pass self
theorem refsT_has (n : String) (l : List Value) (h : refsT tl l = true) : l.contains (.type n) = tl.contains (.type n) := by
  induction l with
  | nil =>
    rcases refsT_cases [] h with ⟨c, r, q, _⟩ | q
    · cases q
    · rw [q]
  | cons a r ih =>
    rcases refsT_cases (a :: r) h with ⟨c, r', q, hr⟩ | q
    · cases q
      rw [List.contains_cons, ih hr]; rfl
    · rw [q]
theorem BaseK.full (b : BaseK B newId initId tl) {l : List Value} (h : refsT tl l = true) : l.isEmpty = false := by
  cases l with
  | nil =>
    rcases refsT_cases [] h with ⟨c, r, q, _⟩ | q
    · cases q
    · have := b.ne; rw [← q] at this; cases this
  | cons _ _ => rfl
variable {prog : Program} {w : World} {A : Around} {E : Value → Shared → Prop} {R : Result → Shared → Prop} {hp : Heap} {g : Array GenState} {dr : Drawn} {t : Nat} {os : OsState}
/-- the first field of an exception, by object.__setattr__ -/
theorem set_first (bk : BaseK B newId initId tl) {K : W.Frag} {name : Str} {tk : Tok} {v : Value} {x C : Addr} {fv : Array Value} {cd : ClassData}
    (KI : K.In hp) (hx : hp.get? x = some { cls := .ref C, data := .fields fv }) (hcd : W.clsIn K C = some cd) (hm : refsT tl cd.mro = true) (hh : cd.hasDict = true) (ha : W.findIn K (.ref C) name = some none)
    (hq : ∀ h' tk' dx, (∀ b o, b ≠ x → hp.get? b = some o → h'.get? b = some o) → hp.objs.size ≤ dx → dx ≠ x → h'.get? x = some { cls := .ref C, dict := some dx, data := .fields fv } → h'.Ns1 dx (fun y => if y = name then some v else none) → R (.ok (.ret .none)) ⟨h', g, dr, tk', os⟩) :
    codeAny (model prog w) A (.call (.builtin "object.__setattr__") ⟨[.ref x, .str name tk, v], []⟩) R ⟨hp, g, dr, t, os⟩ := by
  have inst : W.InstAt hp x { cls := .ref C, data := .fields fv } C none := ⟨hx, rfl, rfl, trivial⟩
  have so := F.store_object
  have hfull := bk.full hm
  have hobj : cd.mro.contains (.type "object") = true := by rw [refsT_has "object" _ hm]; exact bk.obj
  have apart : x ≠ hp.objs.size := Nat.ne_of_lt (Heap.lt_size hx)
  have isObj : W.Looks (model prog w) hp (isInstance (.ref x) (.type "object")) true := inst.type.andThen (W.looks_mroIn KI (by unfold W.mroIn; rw [hcd, Option.bind_some, if_neg (by rw [hfull]; decide), hobj]))
  have lk1 : W.Looks (model prog w) hp (mroOf (.ref C)) cd.mro := (W.looks_clsIn KI hcd).andThen .now
  have lk2 : W.Looks (model prog w) hp (storeTaker? none) none := .now
  have lk3 : W.Looks (model prog w) hp (classData C) cd := W.looks_clsIn KI hcd
  refine codeAny_call_builtin so.slot.plain so.entry (@W.check_slot (model prog w) _ _ ⟨hp, g, dr, t, os⟩ "object.__setattr__" "object" "__setattr__" (.ref x) [.str name tk, v] [] _ so.kind so.split isObj (so.args (.ref x) (.str name tk) v) ?_)
  rw [W.osa_eq, refuse_eq]
  refine wpAny_bind (wpAny_bind (inst.type.at (wpAny_bind (lk1.at ?_)))); rw [bk.passes _ _ hm]
  refine wpAny_pure (wpAny_bind (inst.type.at (wpAny_bind ((W.looks_findIn KI ha).at (wpAny_bind (lk2.at ?_))))))
  change wpAny _ _ (storeInOwnDict (.ref x) (.ref C) (.str name tk) name v false) _ _ _
  obtain ⟨c1, c2, c3, c4, c5, c6, c7, c8, c9, c10, c11⟩ := cd
  dsimp only at hh; subst hh
  unfold storeInOwnDict ownDictForStores
  repeat (first | (with_reducible refine store_in_new ?_ ?_) | (with_reducible refine wpAny_loadPart_at hx ?_) | (with_reducible refine lk3.at ?_) | wp_step)
  · exact ⟨_, #[], _, (Heap.get?_update_ne _ _ _ _ apart.symm).trans (Heap.get?_push_at rfl rfl), rfl, fun e he => absurd he (by simp), fun _ => rfl⟩
  · intro h' tk' hn' hs
    have hx2 : (hp.push { cls := .type "dict", data := .dict #[] }).get? x = some { cls := .ref C, data := .fields fv } := Heap.get?_push_of_some _ hx
    refine hq h' tk' hp.objs.size (fun b o hb ho => (hs.2 b (Nat.ne_of_lt (Heap.lt_size ho))).trans ((Heap.get?_update_ne _ _ _ _ hb).trans (Heap.get?_push_of_some _ ho))) (Nat.le_refl _) apart.symm ?_ hn'
    exact (hs.2 x apart).trans (Heap.get?_update_self _ hx2 rfl)
end Made

open PySem PySem.Spec PyProof.Rows L2
/-- what the written part says of an exception class at c -/
structure ClsE (K : PySem.W.Frag) (c : Addr) (B newId initId : String) (tl : List Value) : Prop where
  bk : BaseK B newId initId tl
  cls : ∃ nm q N bs bm sn sub ab col dd k0 k1 k2 k3 k5, K.lookup c = some (excClassObj nm q c N bs bm true sn sub ab col dd k0 k1 k2 k3 k5 newId) ∧ refsT tl bm = true
  sa : PySem.W.findIn K (.ref c) "__setattr__" = some (some (.builtin "object.__setattr__"))
  exC : PySem.W.subIn K (.ref c) (.type "BaseException") = some true
  tyC : PySem.W.typeIn K (.ref c) = some (.type "type")
  kC : PySem.W.keepIn K (.ref c) = true
  xf : XfC K c
section
variable {X : Cx} {pins : List (Addr × Obj)} {τ : L2.St} {H : Hp} {s : Shared} {a c dx : Addr} {f : Str} {y : V} {u : Value} {Q : Unit → Shared → Prop} {E : Value → Shared → Prop} {A : Around} {B newId initId : String} {tl : List Value}
theorem st_first (T : ClsE X.K c B newId initId tl) (I : Inv X pins τ H s) (e : H a = some (exo a c none)) (hno : PySem.W.findIn X.K (.ref c) f = some none) (ry : RelV y u)
    (h : ∀ dx s', H dx = none → dx ≠ a → Inv X pins τ (upd (upd H dx (exd dx [(f, y)])) a (exo a c (some dx))) s' → Q () s') : wpAny (model X.prog X.w) A (setAttr (.ref a) f u) Q E s := by
  obtain ⟨nm, q, N, bs, bm, sn, sub, ab, col, dd, k0, k1, k2, k3, k5, hC, hbm⟩ := T.cls
  have hcl : PySem.W.clsIn X.K c = some { name := nm, bases := bs, mro := .ref c :: bm, ns := N, qualname := q, hasDict := true, slotNames := sn, subclasses := sub, abstract := ab, collection := col, hasDel := false } := by unfold PySem.W.clsIn; rw [hC] <;> rfl
  obtain ⟨t1, ho⟩ := exo_at I.hok e
  obtain ⟨hp, g, d, t, os⟩ := s
  refine PySem.W.set_plain I.kIn (ox := { cls := .ref c, dict := none, data := .fields #[.ref t1, .none, .none, .none, .bool false, .none] }) (od := none) ⟨ho, rfl, rfl, trivial⟩ T.sa ?_
  refine set_first T.bk I.kIn ho hcl (show refsT tl (.ref c :: bm) = true from hbm) rfl hno (fun h' tk' dx k dn dne hx hn => ?_)
  have fresh : H dx = none := I.hok.fresh dn
  have ndx : ∀ {b : Addr} {o : Obj}, hp.get? b = some o → b ≠ dx := fun {b o} z => Nat.ne_of_lt (Nat.lt_of_lt_of_le (Heap.lt_size z) dn)
  have nea : ∀ {b : Addr}, H b = none → b ≠ a := fun {b} n z => by rw [z, e] at n; cases n
  have U : Un X.fs [] H (upd (upd H dx (exd dx [(f, y)])) a (exo a c (some dx))) hp h' := by
    refine ⟨fun b o z n _ _ => k b o (nea n) z, fun b o z n _ _ => ⟨o.slots, k b o (nea n) z⟩, fun b o z n _ => ?_, fun b o z _ => ?_, fun b xs z => ?_, fun b o v z => ?_, fun b ps z => ⟨#[], ?_⟩⟩
    · rw [upd_ne (nea n), upd_ne (ndx z)]; exact n
    · by_cases hb : b = a
      · rw [hb]; exact ⟨_, hx⟩
      · exact ⟨o, k b o hb z⟩
    · rw [upd_ne (at_ne e z exo_tup), upd_ne (ne_of_none z fresh)]; exact z
    · rw [upd_ne (at_ne e z exo_frz), upd_ne (ne_of_none z fresh)]; exact z
    · rw [upd_ne (at_ne e z exo_tbl), upd_ne (ne_of_none z fresh), z]; simp
  refine h dx _ fresh dne (I.un (t' := tk') U fun b o z => ?_)
  by_cases hb : b = a
  · subst hb
    rw [upd_same] at z; cases z
    exact exo_ok hx
  · rw [upd_ne hb] at z
    by_cases hd : b = dx
    · subst hd
      rw [upd_same] at z; cases z
      exact exd_ok hn (relO_put (fs := []) ry fun g => True.intro)
    · rw [upd_ne hd] at z
      refine (I.hok b o z).stay (fun c' v hc w => k c' v ?_ w) (fun c' hc => ?_) (fun c' xs hc => ?_)
      · rcases hc with hc | hc
        · rw [hc]; exact hb
        · exact at_ne e hc exo_own
      · rw [upd_ne (at_ne e hc exo_own), upd_ne (ne_of_none hc fresh)]; exact hc
      · rw [upd_ne (at_ne e hc exo_tup), upd_ne (ne_of_none hc fresh)]; exact hc
/-- Base.__init__(self, ..) as the built-in does it -/
theorem init_first {us : List Value} {Q : Value → Shared → Prop} (T : ClsE X.K c B newId initId tl) (I : Inv X pins τ H s) (e : H a = some (exo a c none)) (hl : us.length ≤ sizeLine) (h : ∀ s', Inv X pins τ H s' → Q .none s') :
    wpAny (model X.prog X.w) A (call (.builtin initId) (.ref a :: us)) Q E s := by
  obtain ⟨nm, q, N, bs, bm, sn, sub, ab, col, dd, k0, k1, k2, k3, k5, hC, hbm⟩ := T.cls
  obtain ⟨t1, ho⟩ := exo_at I.hok e
  obtain ⟨hp, g, d, t, os⟩ := s
  refine wpAny_call (PySem.HandSPX.init_base T.bk.bf (fun n => refsT_has n bm hbm) (I.kIn _ _ hC) ho hl fun h' t2 k hx => ?_)
  have J := I.write (t' := t) (x := a) (e := a) (o := exo a c none) (by rw [e]; exact True.intro) (.inl rfl) k ⟨_, hx⟩ (exo_ok hx)
  have same : upd H a (exo a c none) = H := by
    funext b
    by_cases hb : b = a
    · rw [hb, upd_same, e]
    · exact upd_ne hb
  rw [same] at J
  exact h _ J
end
section
variable {X : Cx} {o e : Expr} {es : List Expr} {to te : TE} {ta : TA} {f : Str} {p p' p1 p2 pos : Pos} {B newId initId : String} {tl : List Value}
/-- Base.__init__(self, text) -/
def tInit (K : PySem.W.Frag) (B newId initId : String) (tl : List Value) (ta : TA) : TE := fun σ H Q => ta σ H fun vs H1 => ∃ (a c : Addr) (ws : List V), vs = .ref a :: ws ∧ ws.length ≤ 1000 ∧ ClsE K c B newId initId tl ∧ H1 a = some (exo a c none) ∧ Q .non H1
/-- how the name of the base is read -/
def BaseAt (X : Cx) (x : Str) (pz : Pos) (initId : String) : Prop :=
  ∀ (pins : List (Addr × Obj)) (τ : L2.St) (H : Hp) (s : Shared) (pl : Sem Bool) (E : Value → Shared → Prop) (Q : Value × List Value → Shared → Prop), Inv X pins τ H s → (∀ s', Inv X pins τ H s' → Q (.builtin initId, []) s') →
    wpAny (model X.prog X.w) X.A (eval (.Name x pz) X.env) (fun ov s1 => wpAny (model X.prog X.w) X.A (getMethod ov "__init__" pl) Q E s1) E s
theorem baseAt_own {x : Str} {c : Addr} {mc : Value} (hg : Gl X x) (hm : X.mg x = some (.ref c)) (r : ClX.CRead X.K c mc) (k : PySem.W.findCls X.K (.ref c) mc "__init__" = some (.val (.builtin initId))) (hh : PySem.W.handedIn (.builtin initId) = true := by decide +kernel) (hd : (x == ("__debug__" : Str)) = false := by decide) : BaseAt X x p1 initId := by
  intro pins τ H s pl E Q I h
  refine ld_glob (E := E) I hg hm ?_ hd
  refine PySem.W.method_cls I.kIn r.ga ?_
  exact PySem.W.cls_value I.kIn r.rd k hh (h _ (I.tok _))
theorem baseAt_blt {T : String} {x : Str} (hg : Gl X x) (hm : X.mg x = none) (hv : bootBuiltins x = some (.type T)) (ht : typeOf (.type T) = pure (.type "type")) (hs : Manifest.isStub T = false)
    (k : PySem.W.findCls X.K (.type T) (.type "type") "__init__" = some (.val (.builtin initId))) (hn : x ≠ "__name__" := by decide) (hh : PySem.W.handedIn (.builtin initId) = true := by decide +kernel) (hd : (x == ("__debug__" : Str)) = false := by decide) : BaseAt X x p1 initId := by
  intro pins τ H s pl E Q I h
  refine ld_blt (E := E) I hg hm hv ?_ hn hd
  obtain ⟨m, fr⟩ := I.fr
  exact PySem.W.method_type fr I.ok.mod.kin ht hs k hh (h _ (I.tok _))
theorem pe_binit {pl : Sem Bool} {x : Str} (hB : BaseAt X x p1 initId) (ha : PA X (e :: es) ta)
    (hc : eval (.Call (.Attribute (.Name x p1) "__init__" p2) (e :: es) [] pos) X.env = (do
      let ov ← eval (.Name x p1) X.env
      standAt p2.atName
      let (f, first) ← holding [ov] (getMethod ov "__init__" pl)
      callWith pos f first (backTo pos (starEach (e :: es) X.env)) (backToKw pos (keywordEach [] X.env))) := by rfl)
    (he : starEach (e :: es) X.env = (false, eval e X.env) :: starEach es X.env := by rfl) (hpl : (backTo pos (starEach es X.env)).any (·.1) = false := by rfl) :
    PE X (.Call (.Attribute (.Name x p1) "__init__" p2) (e :: es) [] pos) (tInit X.K B newId initId tl ta) := by
  refine ⟨fun pins s σ H Q I h => ?_⟩
  refine PySem.W.methodCall_KW (hB pins σ H s pl X.xe _ I fun s1 I1 => ?_) hc
  show wpAny _ _ (callWith pos (Value.builtin initId) [] (backTo pos (starEach (e :: es) X.env)) []) _ _ _
  refine PyProof.Rows.callWith_method1 (thn (ha.run pos pins _ σ H _ I1 h) fun us s2 ⟨vs, H1, I2, r1, a, c, ws, ev, hl, T, ea, q⟩ => ?_) he hpl
  subst ev
  cases r1 with
  | @cons _ u0 _ ur ra rw' =>
    obtain rfl : u0 = Value.ref a := ra
    have hlen : ur.length ≤ sizeLine := by rw [← Paired.length rw', sizeLine_eq]; omega
    exact init_first T I2 ea hlen fun s' J => ⟨.non, H1, J, rfl, q⟩
/-- self.f = e, the first field -/
def tFst (K : PySem.W.Frag) (B newId initId : String) (tl : List Value) (f : Str) (to te : TE) : TS := fun D σ H => te σ H fun y H1 => to σ H1 fun x H2 => ∃ a c : Addr, x = .ref a ∧ ClsE K c B newId initId tl ∧ PySem.W.findIn K (.ref c) f = some none ∧
  H2 a = some (exo a c none) ∧ ∀ dx, H2 dx = none → dx ≠ a → D.nx σ (upd (upd H2 dx (exd dx [(f, y)])) a (exo a c (some dx)))
theorem ps_fst (ho : PE X o to) (he : PE X e te) (hs : swapsWith e (some (.Attribute o f p')) pos.line X.env = pure false := by rfl) : PS X (.Assign [.Attribute o f p'] e pos) (tFst X.K B newId initId tl f to te) := by
  refine ⟨fun pins s σ H D I h => ?_⟩
  refine plainObj_wpAny_Assign_Attribute (thn (he.run pins s σ H _ I h) fun v s1 ⟨y, H1, I1, r1, q1⟩ => thn (ho.run pins s1 σ H1 _ I1 q1) fun u s2 ⟨x, H2, I2, r2, a, c, ex, T, hno, ea, q⟩ => ?_) hs
  subst ex
  obtain rfl : u = Value.ref a := r2
  exact st_first T I2 ea hno r1 fun dx s' n ne J => ⟨σ, _, J, q dx n ne⟩
/-- what __init__(self, value) promises -/
def spI (K : PySem.W.Frag) (c : Addr) (f : Str) : Sp := fun vs H Q _ => ∃ (a : Addr) (y : V), vs = [.ref a, y] ∧ H a = some (exo a c none) ∧ ∀ dx, H dx = none → dx ≠ a → Q .non (upd (upd H dx (exd dx [(f, y)])) a (exo a c (some dx)))
/-- C(..): an exception is made -/
def tMkE (c : Addr) (f : Str) (dvs : List V) (ta : TA) : L2.St → Hp → XK → Prop := fun σ H Q => ta σ H fun vs H1 => ∃ y, vs ++ dvs = [y] ∧ ∀ d, H1 d = none → Q (.ref c) (some d) (upd H1 d (.xd [(f, y)]))
end
end TL

set_option Elab.async false
set_option linter.all false
set_option maxRecDepth 100000
set_option maxHeartbeats 4000000
/-! TL11: exceptions made, raised, held as values, caught. -/
namespace TL
open PySem PySem.Spec PyProof.Rows L2
section
variable {X : Cx} {pins : List (Addr × Obj)} {τ : L2.St} {H : Hp} {s : Shared} {c fI : Addr} {f : Str} {B newId initId : String} {tl : List Value} {k : Nat} {fd : FuncData} {ps : List Str} {dvs : List V} {ds : List Value} {es : List Expr} {e : Expr} {x : Str} {p pos : Pos} {ta : TA}
/-- an exception class of the text: the class, its __init__ -/
structure ClsI (X : Cx) (c fI : Addr) (f : Str) (B newId initId : String) (tl : List Value) (fd : FuncData) (ps : List Str) (ds : List Value) (dvs : List V) : Prop where
  T : ClsE X.K c B newId initId tl
  iC : PySem.W.findIn X.K (.ref c) "__init__" = some (some (.ref fI))
  tI : PySem.W.typeIn X.K (.ref fI) = some (.type "function")
  no : PySem.W.findIn X.K (.ref c) f = some none
  fn : FnOk X.prog X.w X.K X.mg X.base CX0 1 fI fd ps (spI X.K c f)
  bs : Binds X.K fd ps ds
  dv : Vals dvs ds
theorem run_exc {us : List Value} {vs : List V} {y : V} {Q : XK} (Z : ClsI X c fI f B newId initId tl fd ps ds dvs) (hr : Room 3 X.A) (I : Inv X pins τ H s) (r : Vals vs us) (hl0 : vs.length ≤ 1000) (hy : vs ++ dvs = [y])
    (q : ∀ d, H d = none → Q (.ref c) (some d) (upd H d (.xd [(f, y)]))) : wpAny (model X.prog X.w) X.A (call (.ref c) us) (MkP X pins τ Q) X.xe s := by
  obtain ⟨nm, qn, N, bs', bm, sn, sub, ab, col, dd, k0, k1, k2, k3, k5, hC, hbm⟩ := Z.T.cls
  obtain ⟨hp, g, dr, tk, os⟩ := s
  have hsz : hp.objs.size ≤ hp.objs.size + 1 := Nat.le_succ _
  have hn : H (hp.objs.size + 1) = none := I.hok.fresh hsz
  have kk : ∀ b o, hp.get? b = some o → ((hp.push (PySem.W.kdv_tup us)).push (PySem.HandSPX.excO c hp.objs.size)).get? b = some o := fun b o z => Heap.get?_push_of_some _ (Heap.get?_push_of_some _ z)
  have hget : ((hp.push (PySem.W.kdv_tup us)).push (PySem.HandSPX.excO c hp.objs.size)).get? (hp.objs.size + 1) = some (PySem.HandSPX.excO c hp.objs.size) := by heap_get
  have I2 : Inv X pins τ (upd H (hp.objs.size + 1) (exo (hp.objs.size + 1) c none)) ⟨(hp.push (PySem.W.kdv_tup us)).push (PySem.HandSPX.excO c hp.objs.size), g, dr, tk, os⟩ :=
    I.laid (t' := tk) (a := hp.objs.size + 1) (o := exo (hp.objs.size + 1) c none) (h' := (hp.push (PySem.W.kdv_tup us)).push (PySem.HandSPX.excO c hp.objs.size)) kk hsz (exo_ok hget)
  have r2 : Vals (V.ref (hp.objs.size + 1) :: (vs ++ dvs)) (Value.ref (hp.objs.size + 1) :: (us ++ ds)) := .cons rfl (r.append Z.dv)
  rw [hy] at r2
  have sp : spI X.K c f [V.ref (hp.objs.size + 1), y] (upd H (hp.objs.size + 1) (exo (hp.objs.size + 1) c none)) (fun v H2 => v = .non ∧ ∃ (d : Addr), H2 (hp.objs.size + 1) = some (exo (hp.objs.size + 1) c (some d)) ∧ H2 d = some (exd d [(f, y)]) ∧ H d = none ∧ Q (.ref c) (some d) (upd (del H2 (hp.objs.size + 1)) d (.xd [(f, y)]))) E0 := by
    refine ⟨_, y, rfl, upd_same, fun dx n ne => ⟨rfl, dx, upd_same, by rw [upd_ne ne, upd_same], by rw [upd_ne ne] at n; exact n, ?_⟩⟩
    have n2 : H dx = none := by rw [upd_ne ne] at n; exact n
    have eH : upd (del (upd (upd (upd H (hp.objs.size + 1) (exo (hp.objs.size + 1) c none)) dx (exd dx [(f, y)])) (hp.objs.size + 1) (exo (hp.objs.size + 1) c (some dx))) (hp.objs.size + 1)) dx (.xd [(f, y)]) = upd H dx (.xd [(f, y)]) := by
      funext b
      by_cases hb : b = dx
      · rw [hb, upd_same, upd_same]
      · rw [upd_ne hb, upd_ne hb]
        by_cases ha : b = hp.objs.size + 1
        · rw [ha, del_same, hn]
        · rw [del_ne ha, upd_ne ha, upd_ne hb, upd_ne ha]
    rw [eH]
    exact q dx n2
  have hl : (Value.ref (hp.objs.size + 1) :: us ++ ds).length = ps.length := by
    have z := r2.length
    rw [Z.fn.len _ _ _ _ sp] at z
    exact z.symm
  have hus : us.length ≤ sizeLine := by rw [← Paired.length r, sizeLine_eq]; omega
  refine wpAny_call (PySem.HandSPX.call_own Z.T.bk.bf (fun n => refsT_has n bm hbm) (I.kIn _ _ hC) (PySem.W.looks_findIn I.kIn Z.iC) (fun self => PySem.W.bind_fn I.kIn self Z.tI) hus
    (codeAny_mono (Z.fn.run _ X.stack _ _ ⟨Value.ref (hp.objs.size + 1) :: us, []⟩ (Value.ref (hp.objs.size + 1) :: (us ++ ds)) _ _ E0 ((hr.make c us []).mono (by decide)) (I2.env0.make c us []) (Z.bs _ (Value.ref (hp.objs.size + 1) :: us) I2.kIn hl) r2 sp) fun r' s' hq' => ?_))
  cases r' with
  | error er => exact (show False from hq').elim
  | ok fl =>
    cases fl with
    | ret u =>
      obtain ⟨v, H2, os2, bare2, un2, hok2, rv, ev, d, ea, ed, hd1, q2⟩ := hq'
      subst ev
      obtain ⟨h2, g2, d2, t2, os'⟩ := s'
      exact ⟨rv, mk_end (raises_own Z.T.exC Z.T.tyC) I hsz kk un2 hok2 os2 bare2 ea ed hd1 q2⟩
    | next => exact False.elim hq'
    | brk => exact False.elim hq'
    | cont => exact False.elim hq'
theorem pmk_exc (Z : ClsI X c fI f B newId initId tl fd ps ds dvs) (hr : Room 3 X.A) (hg : Gl X x) (hm : X.mg x = some (.ref c)) (ha : PA X (e :: es) ta) (hdb : (x == ("__debug__" : Str)) = false := by decide)
    (he : starEach (e :: es) X.env = (false, eval e X.env) :: starEach es X.env := by rfl) (hpl : (backTo pos (starEach es X.env)).any (·.1) = false := by rfl) : PMk X (.Call (.Name x p) (e :: es) [] pos) (tMkE c f dvs ta) := by
  intro pins s τ H Q I h
  refine wpAny_Call_Name_kw (ld_glob I hg hm ?_ hdb)
  refine PySem.W.callWith_K (h₀ := X.base) I.ok.mod.kin Z.T.kC (thn (ha.run pos pins s τ H _ I h) fun us s1 ⟨vs, H1, I1, r1, y, hy, q⟩ => ⟨I1.kIn, ?_⟩) he hpl
  refine run_exc Z hr I1 r1 ?_ hy q
  have := congrArg List.length hy
  rw [List.length_append, List.length_singleton] at this
  omega
theorem pmk_exc0 (Z : ClsI X c fI f B newId initId tl fd ps ds dvs) (hr : Room 3 X.A) (hg : Gl X x) (hm : X.mg x = some (.ref c)) (hdb : (x == ("__debug__" : Str)) = false := by decide) : PMk X (.Call (.Name x p) [] [] pos) (tMkE c f dvs tNil) := by
  intro pins s τ H Q I h
  obtain ⟨y, hy, q⟩ := h
  refine wpAny_Call_Name_kw (ld_glob I hg hm ?_ hdb)
  exact PySem.W.callWith_K0 I.kIn Z.T.kC (run_exc (us := []) (vs := []) Z hr I .nil (by simp) hy q)

/-! ### an exception as a value -/
theorem Inv.other {g g' : Array GenState} {d d' : Drawn} {t t' : Nat} {os : OsState} {h : Heap} (I : Inv X pins τ H ⟨h, g, d, t, os⟩) (b : AllBare g') : Inv X pins τ H ⟨h, g', d', t', os⟩ :=
  ⟨I.ok, I.os, b, I.base, I.loc, I.cell, I.free, I.freeC, I.pin, I.hok, I.len⟩
theorem exH_ok {P : Program} {w : World} {H : Hp} {h : Heap} {a dd : Addr} {cls : Value} {oe : Obj} {vs : Array Value} (e : h.get? a = some oe) (z : Zc cls (some dd) oe) (d : oe.data = .fields vs) : ObjOk P w H h a (exH cls dd a) :=
  ⟨⟨oe, vs, e, z, d⟩, ⟨oe, e⟩, fun _ _ ⟨o, v, q, r⟩ k => ⟨o, v, k o q, r⟩⟩
/-- what was made becomes a value -/
theorem mk_value {Q : VK} {u : Value} {s' : Shared} (h : MkP X pins τ (fun cls d H' => ∃ dd, d = some dd ∧ ∀ a, H' a = none → Q (.ref a) (upd H' a (exH cls dd a))) u s') : EP X pins τ Q u s' := by
  obtain ⟨a, oe, vs, sI, H', cls, d, rfl, I, k, n0, e, z, hd, h1, na, os, ag, _, dd, rfl, q⟩ := h
  obtain ⟨hI, gI, dI, tI, osI⟩ := sI
  obtain ⟨h', g', d', t', os'⟩ := s'
  have eo : os' = osI := os
  subst eo
  have J := I.laidN (h' := h') (t' := t') (o := exH cls dd a) k n0 na (exH_ok e z hd)
  exact ⟨.ref a, _, TL.Inv.other J ag, rfl, q a na⟩
end

/-! ### over data -/
section
variable {X : Cx} {C : Cn} {fI : Addr} {f : Str} {B newId initId : String} {tl : List Value} {fd : FuncData} {ps : List Str} {dvs : List V} {ds : List Value} {es : List Expr} {e : Expr} {x : Str} {p pos : Pos} {dD : List D} {k : Nat}
/-- raise C(e) -/
def sRaise (i : Nat) (dD : List D) (m : SS → O (List D)) : SS → OS := fun σ => (m σ).bindS fun ds σ1 => match ds ++ dD with
  | [d] => .ex ⟨i, d⟩ σ1
  | _ => .bad
theorem RpL.one {C : Cn} {H : Hp} {d : D} {vs : List V} (h : RpL C H [d] vs) : ∃ v, vs = [v] ∧ Rp C H d v := by
  simp only [RpL] at h
  obtain ⟨v, r, e, h1, h2⟩ := h
  subst h2
  exact ⟨v, e, h1⟩
theorem ClsI.wish (Z : ClsI X (C.ca k) fI f B newId initId tl fd ps ds dvs) (E : Value → Shared → Prop) : ClsI (X.wish E) (C.ca k) fI f B newId initId tl fd ps ds dvs := ⟨Z.T, Z.iC, Z.tI, Z.no, Z.fn, Z.bs, Z.dv⟩
theorem xd_same {H : Hp} {d : Addr} {o : HO} (h : H d = none) : Same H (upd H d o) := same_new h
theorem ms_raise {m : SS → O (List D)} (hc : X.calm = true) (Z : ClsI X (C.ca k) fI f B newId initId tl fd ps ds dvs) {n : Nat} (hr : TRoom n X.A) (hcf : C.cf k = f) (hdd : ∀ H, RpL C H dD dvs) (hg : Gl X x) (hm : X.mg x = some (.ref (C.ca k))) (ha : MA X C (e :: es) m) (hdb : (x == ("__debug__" : Str)) = false := by decide)
    (he : starEach (e :: es) X.env = (false, eval e X.env) :: starEach es X.env := by rfl) (hpl : (backTo pos (starEach es X.env)).any (·.1) = false := by rfl) {pos' : Pos} : MS X C (.Raise (some (.Call (.Name x p) (e :: es) [] pos)) none pos') (sRaise k dD m) := by
  refine ⟨fun E W tk pw => (ps_raise (X := X.wish E) hc tk (pmk_exc (Z.wish E) (hr.room.mono (by decide)) hg hm (ha.pa E W tk) hdb he hpl)).imp fun D' τ H q => ?_⟩
  refine (tSt_bind (R := fun _ => RpL C) q).mono fun vs H1 ⟨dds, r, f1, G, σ, sr, p⟩ => ?_
  dsimp only at p
  split at p
  · rename_i d ed
    have r2 := r.append (hdd H1)
    rw [ed] at r2
    obtain ⟨v, ev, rv⟩ := r2.one
    refine ⟨v, ev, fun d2 hd2 => ?_⟩
    have sm : Same H1 (upd H1 d2 (.xd [(f, v)])) := same_new hd2
    exact p _ _ τ _ ⟨rfl, d2, _, v, rfl, upd_same, by rw [hcf]; simp [List.lookup], rv.fx (.of_same sm)⟩ (sr.same sm) (.of_same sm)
  · exact p.elim
/-- C(e) as a value -/
def sMkE (i : Nat) (dD : List D) (m : SS → O (List D)) : SS → O D := fun σ => (m σ).bind fun ds σ1 => match ds ++ dD with
  | [d] => .ok (.exc i d) σ1
  | _ => .bad
theorem exc_new {H1 : Hp} {d2 a : Addr} {v : V} {d : D} (hcf : C.cf k = f) (hd2 : H1 d2 = none) (ha : upd H1 d2 (.xd [(f, v)]) a = none) (rv : Rp C H1 d v) :
    Same H1 (upd (upd H1 d2 (.xd [(f, v)])) a (exH (.ref (C.ca k)) d2 a)) ∧ Rp C (upd (upd H1 d2 (.xd [(f, v)])) a (exH (.ref (C.ca k)) d2 a)) (.exc k d) (.ref a) := by
  have sm : Same H1 (upd H1 d2 (.xd [(f, v)])) := same_new hd2
  have sm2 : Same (upd H1 d2 (.xd [(f, v)])) (upd (upd H1 d2 (.xd [(f, v)])) a (exH (.ref (C.ca k)) d2 a)) := same_new ha
  refine ⟨sm.trans sm2, ?_⟩
  simp only [Rp]
  exact ⟨a, d2, v, _, rfl, upd_same, sm2 _ _ upd_same, by rw [hcf]; simp [List.lookup], rv.fx (.of_same (sm.trans sm2))⟩
theorem me_mkE {m : SS → O (List D)} (Z : ClsI X (C.ca k) fI f B newId initId tl fd ps ds dvs) {n : Nat} (hr : TRoom n X.A) (hcf : C.cf k = f) (hdd : ∀ H, RpL C H dD dvs) (hg : Gl X x) (hm : X.mg x = some (.ref (C.ca k))) (ha : MA X C (e :: es) m) (hdb : (x == ("__debug__" : Str)) = false := by decide)
    (he : starEach (e :: es) X.env = (false, eval e X.env) :: starEach es X.env := by rfl) (hpl : (backTo pos (starEach es X.env)).any (·.1) = false := by rfl) : ME X C (.Call (.Name x p) (e :: es) [] pos) (sMkE k dD m) := by
  refine ⟨fun E W tk => ⟨fun pins s τ H Q I h => ?_⟩⟩
  refine thn (pmk_exc (Z.wish E) (hr.room.mono (by decide)) hg hm (ha.pa E W tk) hdb he hpl pins s τ H _ I ?_) fun u s' z => mk_value z
  refine (tG_bind (R := fun _ => RpL C) h).mono fun vs H1 ⟨dds, r, f1, G, σ, sr, p⟩ => ?_
  dsimp only at p
  split at p
  · rename_i d ed
    have r2 := r.append (hdd H1)
    rw [ed] at r2
    obtain ⟨v, ev, rv⟩ := r2.one
    refine ⟨v, ev, fun d2 hd2 => ⟨d2, rfl, fun a ha => ?_⟩⟩
    obtain ⟨sm, rx⟩ := exc_new (C := C) (k := k) (d := d) hcf hd2 ha rv
    exact p _ _ rx (sr.same sm) (.of_same sm)
  · exact p.elim
theorem me_mkE0 (Z : ClsI X (C.ca k) fI f B newId initId tl fd ps ds dvs) {n : Nat} (hr : TRoom n X.A) (hcf : C.cf k = f) (hdd : ∀ H, RpL C H dD dvs) (hg : Gl X x) (hm : X.mg x = some (.ref (C.ca k))) (hdb : (x == ("__debug__" : Str)) = false := by decide) :
    ME X C (.Call (.Name x p) [] [] pos) (sMkE k dD sNil) := by
  refine ⟨fun E W tk => ⟨fun pins s τ H Q I h => ?_⟩⟩
  refine thn (pmk_exc0 (Z.wish E) (hr.room.mono (by decide)) hg hm hdb pins s τ H _ I ?_) fun u s' z => mk_value z
  obtain ⟨G, σ, sr, p⟩ := h
  have p : PostG (fun _ => Rp C) C W τ G H (match ([] : List D) ++ dD with | [d] => .ok (.exc k d) σ | _ => .bad) Q := p
  split at p
  · rename_i d ed
    have r2 := hdd H
    rw [List.nil_append] at ed
    rw [ed] at r2
    obtain ⟨v, ev, rv⟩ := r2.one
    refine ⟨v, ev, fun d2 hd2 => ⟨d2, rfl, fun a ha => ?_⟩⟩
    obtain ⟨sm, rx⟩ := exc_new (C := C) (k := k) (d := d) hcf hd2 ha rv
    exact p _ _ rx (sr.same sm) (.of_same sm)
  · exact p.elim
/-- e.f of such a value -/
def sFld (fs : Nat → Bool) (m : SS → O Hd) : SS → O D := fun σ => (m σ).bind fun h σ1 => match res σ1 h with
  | some (.exc c d) => if fs c then .ok d σ1 else .bad
  | _ => .bad
theorem me_fld {m : SS → O Hd} {n : Str} {fs : Nat → Bool} (hK : X.K = C.K) (hf : ∀ c, fs c = true → C.cf c = n ∧ XfC C.K (C.ca c) ∧ PySem.W.findIn C.K (.ref (C.ca c)) n = some none) (h : MH X C e m) (hb : attributeBase e n X.env (eval e X.env) = eval e X.env := by rfl) : ME X C (.Attribute e n pos) (sFld fs m) := by
  refine ⟨fun E W tk => ⟨fun pins s τ H Q I q => ?_⟩⟩
  refine attr_of (env := X.env) hb ?_
  refine thn ((h.pe E W tk).run pins s τ H _ I (tG_bind (R := RH C) q)) fun u s1 ⟨v, H1, I1, ru, h1, r1, f1, G, σ, sr, p⟩ => ?_
  dsimp only at p
  split at p
  · rename_i c d ed
    split at p
    · rename_i hc
      obtain ⟨ecf, xf, hno⟩ := hf c hc
      have rb : Rp C H1 (.exc c d) v := sr.res r1 ed
      simp only [Rp] at rb
      obtain ⟨a, dd, x, fs', rfl, ha, hdd, hl, rx⟩ := rb
      obtain rfl : u = Value.ref a := ru
      obtain ⟨⟨oe, vs, e1, e2, e3⟩, _, _⟩ : ObjOk X.prog X.w H1 s1.heap a (exH (.ref (C.ca c)) dd a) := I1.hok a _ ha
      obtain ⟨mA, hns, hr⟩ : ObjOk X.prog X.w H1 s1.heap dd (.xd fs') := I1.hok dd _ hdd
      obtain ⟨od, ho, hlk⟩ := lookIn_ns hns
      rw [ecf] at hl
      obtain ⟨u2, hu, ru2⟩ := RelO.some_of (v := x) (o := mA n) (by rw [← hl]; exact hr n)
      have J : PySem.W.InstAt s1.heap a oe (C.ca c) (some od) := ⟨e1, e2.1, by unfold PySem.W.notCls; rw [e3] <;> rfl, by rw [e2.2]; exact ho⟩
      exact HandSPX.exc_get (K := C.K) (hK ▸ I1.kIn) J xf.ga xf.gg xf.exC (PySem.W.findObj_own xf.hdC hno rfl (by rw [hlk, hu])) (handed_of ru2) ⟨x, H1, I1.tok _, ru2, p x H1 rx sr (.refl _)⟩
    · exact p.elim
  · exact p.elim
end
end TL

set_option Elab.async false
set_option linter.all false
set_option maxRecDepth 100000
set_option maxHeartbeats 4000000
/-! TL12: list comprehensions. -/
namespace TL
open PySem PySem.Spec PyProof.Rows L2

/-! ### slots forgotten and brought back -/
def wipeS (σ : SS) : List Nat → SS
  | [] => σ
  | v :: vs => (wipeS σ vs).set v none
/-- the slots of vs as they were -/
def bringS (σ0 σ : SS) : List Nat → SS
  | [] => σ
  | v :: vs => match σ0[v]? with
    | some s => (bringS σ0 σ vs).set v s
    | none => bringS σ0 σ vs
def plainAt (σ : SS) : List Nat → Bool
  | [] => true
  | v :: vs => (match σ[v]? with
    | some (some (.val _)) => true
    | some none => true
    | _ => false) && plainAt σ vs
section
variable {C : Cn} {G : Gh} {H H' : Hp} {σ σ0 : SS} {τ : L2.St} {i : Nat}
theorem SR.setNone (h : SR C G H σ τ) : SR C G H (σ.set i none) (τ.set i none) := by
  obtain ⟨l, g, nt, tb, F, h1, h2, h3, h4⟩ := h
  refine ⟨by simpa using l, g, nt, tb, ptF i [] F, fun j sd e => ?_, fun j k b hn h5 h6 => ?_, fun j b hb => ?_, fun j hn => ?_⟩
  · by_cases hj : j = i
    · subst hj
      rw [List.getElem?_set] at e
      split at e
      · split at e <;> cases e
      · exact absurd rfl (by assumption)
    · rw [ptF_ne hj]
      rw [List.getElem?_set_ne (Ne.symm hj)] at e
      rw [List.getElem?_set_ne (Ne.symm hj)]
      exact h1 j sd e
  · by_cases hj : j = i
    · rw [hj, ptF_same] at h5; cases h5
    · rw [ptF_ne hj] at h5
      by_cases hk : k = i
      · rw [hk, ptF_same] at h6; cases h6
      · rw [ptF_ne hk] at h6; exact h2 j k b hn h5 h6
  · by_cases hj : j = i
    · rw [hj, ptF_same] at hb; cases hb
    · rw [ptF_ne hj] at hb; exact h3 j b hb
  · by_cases hj : j = i
    · rw [hj, ptF_same]
    · rw [ptF_ne hj]
      refine h4 j fun sd e => hn sd ?_
      rw [List.getElem?_set_ne (Ne.symm hj)]; exact e
theorem SR.wipe (h : SR C G H σ τ) : ∀ vs, SR C G H (wipeS σ vs) (wipe τ vs)
  | [] => h
  | v :: vs => by unfold wipeS L2.wipe; exact (SR.wipe h vs).setNone
theorem wipe_set_self : ∀ (τ : L2.St) (v : Nat) (x : Option V), τ[v]? = some x → (τ.set v none).set v x = τ := fun τ v x e => by
  rw [List.set_set]
  obtain ⟨h, e⟩ := List.getElem?_eq_some_iff.mp e
  rw [← e]
  exact List.set_getElem_self h
/-- the slots come back, one after another -/
theorem SR.bring (h0 : SR C G H σ0 τ) (f : Fx C.T H H') : ∀ (vs : List Nat) {σ : SS}, vs.Nodup → plainAt σ0 vs = true → (∀ v ∈ vs, v < τ.length) → SR C G H' σ (L2.wipe τ vs) → SR C G H' (bringS σ0 σ vs) τ := by
  -- by what is left to bring
  have go : ∀ (vs : List Nat) {σ : SS} {τ' : L2.St}, plainAt σ0 vs = true → SR C G H' σ τ' → τ'.length = τ.length → ∃ τ'', τ''.length = τ.length ∧ SR C G H' (bringS σ0 σ vs) τ'' ∧ (∀ j, j ∉ vs → τ''[j]? = τ'[j]?) ∧ (∀ j, j ∈ vs → ∀ x, τ[j]? = some x → τ''[j]? = some x ∨ (τ''[j]? = some none ∧ σ0[j]? = some none)) := by
    intro vs
    induction vs with
    | nil => intro σ τ' _ h hl; exact ⟨τ', hl, h, fun _ _ => rfl, fun j hj => by cases hj⟩
    | cons v vs ih =>
      intro σ τ' hp h hl
      unfold plainAt at hp
      rw [Bool.and_eq_true] at hp
      obtain ⟨τ2, l2, s2, o2, i2⟩ := ih hp.2 h hl
      unfold bringS
      have hp1 := hp.1
      split at hp1
      · rename_i d e
        rw [e]
        obtain ⟨x, F, e1, r, _⟩ := h0.at e
        refine ⟨τ2.set v (some x), by simpa using l2, s2.setVal (r.fx f), fun j hj => ?_, fun j hj y ey => ?_⟩
        · rw [List.getElem?_set_ne (fun z => hj (by rw [z]; exact List.mem_cons_self))]
          exact o2 j fun z => hj (List.mem_cons_of_mem _ z)
        · by_cases hjv : j = v
          · subst hjv
            rw [e1] at ey
            refine .inl ?_
            rw [List.getElem?_set, if_pos rfl, if_pos (by rw [l2]; exact (List.getElem?_eq_some_iff.mp e1).1)]
            exact ey
          · rw [List.getElem?_set_ne (Ne.symm hjv)]
            exact i2 j (by cases hj with | head => exact absurd rfl hjv | tail _ z => exact z) y ey
      · rename_i e
        rw [e]
        refine ⟨τ2.set v none, by simpa using l2, s2.setNone, fun j hj => ?_, fun j hj y ey => ?_⟩
        · rw [List.getElem?_set_ne (fun z => hj (by rw [z]; exact List.mem_cons_self))]
          exact o2 j fun z => hj (List.mem_cons_of_mem _ z)
        · by_cases hjv : j = v
          · subst hjv
            refine .inr ⟨?_, e⟩
            rw [List.getElem?_set, if_pos rfl, if_pos (by rw [l2]; exact (List.getElem?_eq_some_iff.mp ey).1)]
          · rw [List.getElem?_set_ne (Ne.symm hjv)]
            exact i2 j (by cases hj with | head => exact absurd rfl hjv | tail _ z => exact z) y ey
      · cases hp1
  intro vs σ hn hp hv h
  obtain ⟨τ'', l, s, o, i⟩ := go vs hp h (wipe_length τ vs)
  -- the slots of τ'' are τ's, but for those that nobody knows
  obtain ⟨l1, g, nt, tb, F, h1, h2, h3, h4⟩ := s
  refine ⟨by rw [l1, l], g, nt, tb, F, fun j sd e => ?_, h2, h3, h4⟩
  obtain ⟨v, e1, r⟩ := h1 j sd e
  refine ⟨v, ?_, r⟩
  by_cases hj : j ∈ vs
  · have hlt := hv j hj
    rcases i j hj _ (List.getElem?_eq_getElem hlt) with q | ⟨q, _⟩
    · rw [q] at e1
      rw [List.getElem?_eq_getElem hlt, e1]
    · rw [q] at e1; cases e1
  · rw [o j hj, wipe_out hj] at e1
    exact e1
/-- the thing that is nobody's is written, and stays nobody's -/
theorem SR.reG {a : Addr} {o o2 : HO} (h : SR C ⟨upd G.hp a o, G.at_⟩ H σ τ) (ha : H a = some o) (d : fixd o = false) (nt2 : notTbl o = true) (n2 : notTbl o2 = true) : SR C ⟨upd G.hp a o2, G.at_⟩ (upd H a o2) σ τ := by
  obtain ⟨l, g, nt, tb, F, h1, h2, h3, h4⟩ := h
  have f : Fx C.T H (upd H a o2) := Fx.upd ha d nt2
  have na : ∀ j b, b ∈ F j → b ≠ a := fun j b hb e => by
    have z : upd G.hp a o b = none := h3 j b hb
    rw [e, upd_same] at z; cases z
  refine ⟨l, fun b u e => ?_, fun b u e => ?_, f.2 tb, F, fun j sd e => ?_, h2, fun j b hb => ?_, h4⟩
  · have e : upd G.hp a o2 b = some u := e
    by_cases hb : b = a
    · subst hb
      rw [upd_same] at e ⊢; exact e
    · rw [upd_ne hb] at e ⊢
      exact g b u (by show upd G.hp a o b = some u; rw [upd_ne hb]; exact e)
  · have e : upd G.hp a o2 b = some u := e
    by_cases hb : b = a
    · subst hb
      rw [upd_same] at e; cases e; exact n2
    · rw [upd_ne hb] at e
      exact nt b u (by show upd G.hp a o b = some u; rw [upd_ne hb]; exact e)
  · obtain ⟨w, e1, r⟩ := h1 j sd e
    refine ⟨w, e1, ?_⟩
    have r' : RSD C G H sd w (F j) := by cases sd <;> exact r
    have r2 := r'.keep f fun b hb => upd_ne (na j b hb)
    cases sd <;> exact r2
  · have z : upd G.hp a o b = none := h3 j b hb
    show upd G.hp a o2 b = none
    rw [upd_ne (na j b hb)] at z ⊢; exact z
end
theorem wr_wipe {vs ws : List Nat} {τ τ' : L2.St} (h : Wr ws (wipe τ vs) τ') (s : ∀ j ∈ ws, j ∈ vs) : wipe τ' vs = wipe τ vs := by
  have hin : ∀ (vs : List Nat) (τ : L2.St) (j : Nat), j ∈ vs → j < τ.length → (wipe τ vs)[j]? = some none := fun vs => by
    induction vs with
    | nil => intro τ j hj; cases hj
    | cons v vs ih =>
      intro τ j hj hl
      unfold L2.wipe
      by_cases e : v = j
      · subst e
        rw [List.getElem?_set, if_pos rfl, if_pos (by rw [wipe_length]; exact hl)]
      · rw [List.getElem?_set_ne e]
        exact ih τ j (by cases hj with | head => exact absurd rfl e | tail _ z => exact z) hl
  have hl : τ'.length = τ.length := h.1.trans (wipe_length τ vs)
  refine List.ext_getElem? fun j => ?_
  by_cases hj : j ∈ vs
  · by_cases hlt : j < τ.length
    · rw [hin vs τ' j hj (by omega), hin vs τ j hj hlt]
    · rw [List.getElem?_eq_none (by rw [wipe_length]; omega), List.getElem?_eq_none (by rw [wipe_length]; omega)]
  · rw [wipe_out hj, h.2 j fun z => hj (s j z)]

/-! ### the conditions of a comprehension -/
structure MIf (X : Cx) (C : Cn) (es : List Expr) (m : SS → O Bool) : Prop where
  pt : ∀ E W, Takes (X.wish E) W → PTs (X.wish E) es (tT C W m)
theorem _root_.L2.PTs.imp {X : Cx} {e : List Expr} {t t' : TT} (h : PTs X e t) (k : ∀ τ H Q, t' τ H Q → t τ H Q) : PTs X e t' := ⟨fun p s τ H Q I q => h.run p s τ H Q I (k _ _ _ q)⟩
def sYes : SS → O Bool := fun σ => .ok true σ
theorem mif_nil {X : Cx} {C : Cn} : MIf X C [] sYes := ⟨fun E W tk => pts_nil.imp fun τ H Q h => tG_ret h _ rfl⟩
theorem mif_one {X : Cx} {C : Cn} {e : Expr} {m : SS → O Bool} (h : MT X C e m) : MIf X C [e] m := ⟨fun E W tk => pts_one (h.pt E W tk)⟩

/-! ### [elt for target in iter if ..] -/
def sLcL (vs : List Nat) (g : D → SS → Option SS) (t : SS → O Bool) (m : SS → O D) : List D → List D → SS → O (List D)
  | [], acc, σ => .ok acc σ
  | d :: ds, acc, σ => match g d σ with
    | some σ1 => match t σ1 with
      | .ok true σ2 => match m σ2 with
        | .ok x σ3 => sLcL vs g t m ds (acc ++ [x]) (wipeS σ3 vs)
        | _ => .bad
      | .ok false σ2 => sLcL vs g t m ds acc (wipeS σ2 vs)
      | _ => .bad
    | none => .bad
def sLc (vs : List Nat) (mi : SS → O (List D)) (g : D → SS → Option SS) (t : SS → O Bool) (m : SS → O D) : SS → O (List D) := fun σ => (mi σ).bind fun ds σ1 => if plainAt σ1 vs = true ∧ ds.length ≤ LIM then match sLcL vs g t m ds [] (wipeS σ1 vs) with
  | .ok acc σ2 => .ok acc (bringS σ1 σ2 vs)
  | _ => .bad else .bad
section
variable {X : Cx} {C : Cn}
theorem takes_no {Y : Cx} : Takes (Y.wish fun _ _ => False) (fun _ _ _ _ => False) := fun u s' ⟨_, _, _, _, _, _, _, _, _, _, _, _, _, _, _, _, z⟩ => z
theorem lc_tl {W : WX} {τ : L2.St} {H : Hp} {Q : VK} {own : List (Str × Nat)} {ws : List Nat} {n : Nat} {mi : SS → O (List D)} {g : D → SS → Option SS} {t : SS → O Bool} {m : SS → O D} (hτ : τ.length = n) (hnd : (own.map (·.2)).Nodup) (hlt : ∀ v ∈ own.map (·.2), v < n) (hws : ∀ j ∈ ws, j ∈ own.map (·.2))
    (h : tF C W (sLc (own.map (·.2)) mi g t m) τ H Q) : tLc (tIt C W mi) (tGt C ws g) (tT C (fun _ _ _ _ => False) t) (tE C (fun _ _ _ _ => False) m) (own.map (·.2)) τ H Q := by
  refine (tF_bind (R := fun _ H ds J => ItOk C J H ds) h).mono fun J H1 ⟨ds, jo, f1, G, σ, sr, p⟩ => ?_
  dsimp only at p
  split at p
  · rename_i hpl
    intro Dl nD
    have nG : G.hp Dl = none := by
      cases q : G.hp Dl with
      | none => rfl
      | some u => rw [sr.gr Dl u q] at nD; cases nD
    have n0 : SR C ⟨upd G.hp Dl (.lst []), G.at_⟩ (upd H1 Dl (.lst [])) (wipeS σ (own.map (·.2))) (wipe τ (own.map (·.2))) := (sr.new (o := .lst []) nD).2.wipe _
    have fD : Fx C.T H1 (upd H1 Dl (.lst [])) := .of_same (same_new nD)
    refine ⟨fun i k H => k = ds.length - i ∧ i ≤ ds.length ∧ ∃ acc accV σ', H Dl = some (.lst accV) ∧ RpL C H acc accV ∧ acc.length ≤ i ∧ SR C ⟨upd G.hp Dl (.lst accV), G.at_⟩ H σ' (wipe τ (own.map (·.2))) ∧ Fx C.T H1 H ∧
        PostF C W τ G H1 (match sLcL (own.map (·.2)) g t m (ds.drop i) acc σ' with | .ok acc σ2 => .ok acc (bringS σ σ2 (own.map (·.2))) | _ => .bad) Q, ⟨ds.length, by simp, Nat.zero_le _, [], [], _, upd_same, .nil, Nat.zero_le _, n0, fD, by simpa using p⟩, ?_⟩
    rintro i k H2 ⟨rfl, hil, acc, accV, σ2, eD, rD2, hal, s2, f2, p2⟩
    by_cases hlt2 : i < ds.length
    · refine .inr ⟨jo.1 i H2 f2 hlt2, fun H' => ∃ acc accV σ', H' Dl = some (.lst accV) ∧ RpL C H' acc accV ∧ acc.length ≤ i + 1 ∧ SR C ⟨upd G.hp Dl (.lst accV), G.at_⟩ H' σ' (wipe τ (own.map (·.2))) ∧ Fx C.T H1 H' ∧
        PostF C W τ G H1 (match sLcL (own.map (·.2)) g t m (ds.drop (i + 1)) acc σ' with | .ok acc σ2 => .ok acc (bringS σ σ2 (own.map (·.2))) | _ => .bad) Q, fun H' n => ⟨ds.length - (i + 1), by omega, rfl, hlt2, n⟩, fun x H3 y => ?_⟩
      obtain ⟨sm, d, e, rd⟩ := jo.2.1 i H2 x H3 f2 hlt2 y
      have ed : ds.drop i = d :: ds.drop (i + 1) := by
        rw [List.drop_eq_getElem_cons hlt2]
        rw [List.getElem?_eq_getElem hlt2] at e
        cases e; rfl
      rw [ed] at p2
      have s3 := s2.same sm
      have eD3 := sm _ _ eD
      have rD3 := rD2.fx (.of_same sm)
      unfold sLcL at p2
      cases eg : g d σ2 with
      | none => rw [eg] at p2; exact p2.elim
      | some σ3 =>
        rw [eg] at p2
        dsimp only at p2
        refine ⟨d, ⟨upd G.hp Dl (.lst accV), G.at_⟩, σ2, σ3, rd, s3, eg, fun τ3 s4 w4 => ⟨wr_wipe w4 hws, ⟨upd G.hp Dl (.lst accV), G.at_⟩, σ3, s4, ?_⟩⟩
        have wp := wr_wipe w4 hws
        have f3 : Fx C.T H1 H3 := f2.trans (.of_same sm)
        cases et : t σ3 with
        | bad => rw [et] at p2; exact p2.elim
        | ex x σ4 => rw [et] at p2; exact p2.elim
        | ok b σ4 =>
          rw [et] at p2
          intro b' H4 eb s5 f4
          subst eb
          cases b' with
          | false =>
            refine iteF ⟨acc, accV, wipeS σ4 (own.map (·.2)), s5.gr Dl _ upd_same, rD3.fx f4, by omega, ?_, f3.trans f4, p2⟩
            have := s5.wipe (own.map (·.2))
            rw [wp] at this
            exact this
          | true =>
            refine iteT ⟨⟨upd G.hp Dl (.lst accV), G.at_⟩, σ4, s5, ?_⟩
            dsimp only at p2
            cases em : m σ4 with
            | bad => rw [em] at p2; exact p2.elim
            | ex x σ5 => rw [em] at p2; exact p2.elim
            | ok z σ5 =>
              rw [em] at p2
              intro zv H5 rz s6 f5
              have eD5 : H5 Dl = some (.lst accV) := s6.gr Dl _ upd_same
              have rD5 := (rD3.fx f4).fx f5
              have hlen : accV.length = acc.length := rD5.length
              have fu : Fx C.T H5 (upd H5 Dl (.lst (accV ++ [zv]))) := Fx.upd eD5 rfl
              refine ⟨accV, eD5, by rw [hlen, LIM_eq]; omega, acc ++ [z], accV ++ [zv], wipeS σ5 (own.map (·.2)), upd_same, (rD5.append (.cons rz .nil)).fx fu, by rw [List.length_append]; simpa using hal, ?_, ((f3.trans f4).trans f5).trans fu, p2⟩
              have := (s6.reG (o2 := .lst (accV ++ [zv])) eD5 rfl rfl rfl).wipe (own.map (·.2))
              rw [wp] at this
              exact this
    · have e : i = ds.length := by omega
      subst e
      rw [List.drop_length] at p2
      refine .inl ⟨jo.2.2 H2 f2, ?_⟩
      have p2 : PostF C W τ G H1 (.ok acc (bringS σ σ2 (own.map (·.2)))) Q := p2
      refine p2 Dl accV H2 eD rD2 nG ?_ f2
      have hb : SR C ⟨upd G.hp Dl (.lst accV), G.at_⟩ (upd H1 Dl (.lst accV)) σ τ := (sr.new (o := .lst accV) nD).2
      have fb : Fx C.T (upd H1 Dl (.lst accV)) H2 := ⟨fun a o q d => by
        by_cases hb : a = Dl
        · subst hb; rw [upd_same] at q; cases q; cases d
        · rw [upd_ne hb] at q; exact f2.1 a o q d, fun hT => f2.2 ?_⟩
      · exact hb.bring fb _ hnd hpl.1 (fun v hv => by rw [hτ]; exact hlt v hv) s2
      · -- tables ahead of the list
        intro pa hp
        obtain ⟨ps, q1, q2, q3⟩ := hT pa hp
        have nn : ∀ {b : Addr} {o : HO}, upd H1 Dl (.lst accV) b = some o → (∀ xs, o ≠ .lst xs) → H1 b = some o := fun {b o} q hn => by
          by_cases hb : b = Dl
          · subst hb; rw [upd_same] at q; cases q; exact absurd rfl (hn _)
          · rw [upd_ne hb] at q; exact q
        refine ⟨ps, nn q1 (fun xs z => by cases z), q2, fun pos cv hc => ?_⟩
        obtain ⟨c, e1, e2⟩ := q3 pos cv hc
        exact ⟨c, e1, nn e2 (fun xs z => by cases z)⟩
  · exact p.elim
theorem mf_lc {elt tg iter : Expr} {ifs : List Expr} {scope : Scope} {own : List (Str × Nat)} {vs ws : List Nat} {pos : Pos} {mi : SS → O (List D)} {g : D → SS → Option SS} {t : SS → O Bool} {m : SS → O D} (hc : X.calm = true) (hN : X.N.Nodup) (hvs : own.map (·.2) = vs) (hnd : vs.Nodup) (hlt : ∀ v ∈ vs, v < X.N.length) (hws : ∀ j ∈ ws, j ∈ vs)
    (hi : MI X C tg iter mi) (ok : BlkOk X.N X.env.scope scope own)
    (hg : ∀ (s : Shared) (H : Hp) (Ca : Addr) (cl : List (Str × Addr)) (fp : List Addr), MG (X.blk s H scope (compEnvC scope cl Ca X.env) fp) C tg ws g)
    (ht : ∀ (s : Shared) (H : Hp) (Ca : Addr) (cl : List (Str × Addr)) (fp : List Addr), MIf (X.blk s H scope (compEnvC scope cl Ca X.env) fp) C ifs t)
    (he : ∀ (s : Shared) (H : Hp) (Ca : Addr) (cl : List (Str × Addr)) (fp : List Addr), ME (X.blk s H scope (compEnvC scope cl Ca X.env) fp) C elt m)
    (hs : ∀ x, foldedSetIterable iter X.env x = pure x := by intro _; rfl) : MF X C (.ListComp elt [⟨tg, iter, ifs, 0⟩] scope pos) (sLc vs mi g t m) := by
  subst hvs
  refine ⟨fun E W tk => ?_⟩
  have base := pe_lc (X := X.wish E) (pos := pos) hc hN (hi.pi E W tk) ok (fun s H Ca cl fp => (hg s H Ca cl fp).pg (fun _ _ => False)) (fun s H Ca cl fp => (ht s H Ca cl fp).pt (fun _ _ => False) _ takes_no) (fun s H Ca cl fp => (he s H Ca cl fp).pe (fun _ _ => False) _ takes_no) hs
  exact ⟨fun pins s τ H Q I h => base.run pins s τ H Q I (lc_tl I.len hnd hlt hws h)⟩
theorem ms_setLc {i : Nat} {y : Str} {py : Pos} {elt tg iter : Expr} {ifs : List Expr} {scope : Scope} {own : List (Str × Nat)} {vs ws : List Nat} {pos spos : Pos} {mi : SS → O (List D)} {g : D → SS → Option SS} {t : SS → O Bool} {m : SS → O D} (hc : X.calm = true) (hN : X.N.Nodup) (hy : X.N[i]? = some y) (hyl : X.env.scope.names.lookup y = some .local)
    (hsw : swapsWith (.ListComp elt [⟨tg, iter, ifs, 0⟩] scope pos) (some (.Name y py)) spos.line X.env = pure true) (hvs : own.map (·.2) = vs) (hnd : vs.Nodup) (hlt : ∀ v ∈ vs, v < X.N.length) (hws : ∀ j ∈ ws, j ∈ vs)
    (hi : MI X C tg iter mi) (ok : BlkOk X.N X.env.scope scope own)
    (hg : ∀ (s : Shared) (H : Hp) (Ca : Addr) (cl : List (Str × Addr)) (fp : List Addr), MG (X.blk s H scope (compEnvC scope cl Ca X.env) fp) C tg ws g)
    (ht : ∀ (s : Shared) (H : Hp) (Ca : Addr) (cl : List (Str × Addr)) (fp : List Addr), MIf (X.blk s H scope (compEnvC scope cl Ca X.env) fp) C ifs t)
    (he : ∀ (s : Shared) (H : Hp) (Ca : Addr) (cl : List (Str × Addr)) (fp : List Addr), ME (X.blk s H scope (compEnvC scope cl Ca X.env) fp) C elt m)
    (hs : ∀ x, foldedSetIterable iter X.env x = pure x := by intro _; rfl) : MS X C (.Assign [.Name y py] (.ListComp elt [⟨tg, iter, ifs, 0⟩] scope pos) spos) (sOwn i (sLc vs mi g t m)) := by
  subst hvs
  refine ⟨fun E W tk pw => ?_⟩
  have base := ps_setLc (X := X.wish E) (pos := pos) (spos := spos) (py := py) hc hN hy hyl hsw (hi.pi E W tk) ok (fun s H Ca cl fp => (hg s H Ca cl fp).pg (fun _ _ => False)) (fun s H Ca cl fp => (ht s H Ca cl fp).pt (fun _ _ => False) _ takes_no) (fun s H Ca cl fp => (he s H Ca cl fp).pe (fun _ _ => False) _ takes_no) hs
  exact ⟨fun pins s τ H D' I h => base.run pins s τ H D' I (lc_tl I.len hnd hlt hws (tF_core h))⟩
end
end TL

set_option Elab.async false
set_option linter.all false
set_option maxRecDepth 100000
set_option maxHeartbeats 4000000
/-! TL13: isinstance of exceptions that are values. -/
namespace TL
section Kit
open PySem PySem.Spec PySem.Calls PyProof.Rows PySem.W
variable {prog : Program} {w : World} {A : Around} {E : Value → Shared → Prop} {s : Shared} {K : Frag} {x D : Addr} {ox : Obj} {od : Option Obj}
/-- what the class of an exception says of __class__ -/
structure EkC (K : Frag) (D : Addr) : Prop where
  g1 : findIn K (.ref D) "__getattribute__" = some (some (.builtin "BaseException.__getattribute__"))
  g2 : findIn K (.ref D) "__getattr__" = some none
  g3 : subIn K (.ref D) (.type "BaseException") = some true
  g4 : (clsIn K D).isSome = true
  g5 : findIn K (.ref D) "__class__" = some (some (.builtin "object.__class__"))
  g6 : specialIn K (.builtin "object.__class__") "__get__" = some (some (.builtin "getset_descriptor.__get__"))
  g7 : takesIn K (.builtin "object.__class__") = some true
  g8 : mroIn K D (.type "object") = some true
theorem EkC.found (c : EkC K D) (od : Option Obj) : findObj K D od "__class__" = some (.bind (.builtin "getset_descriptor.__get__") (.builtin "object.__class__")) := by
  obtain ⟨cd, e⟩ := Option.isSome_iff_exists.mp c.g4
  unfold findObj
  rw [e, Option.bind_some, c.g5]
  rw [Option.bind_some]; simp [c.g6, c.g7]
/-- x.__class__, x such an exception -/
theorem EkC.ask (c : EkC K D) {Q : Option Value → Shared → Prop} (KI : K.In s.heap) (J : InstAt s.heap x ox D od) (h : Q (some (.ref D)) { s with toks := s.toks + 1 }) : wpAny (model prog w) A (getAttr? (.ref x) "__class__") Q E s := by
  obtain ⟨hp, g, d, t, os⟩ := s
  have t0 := J.type (M := model prog w)
  have t1 := looks_findIn (M := model prog w) KI c.g1
  have t2 := looks_findIn (M := model prog w) KI c.g2
  have t3 := looks_find (M := model prog w) KI J (c.found od)
  have isB : Looks (model prog w) hp (isInstance (.ref x) (.type "BaseException")) true := t0.andThen (looks_subIn KI c.g3)
  have n0 : (false && onTheHeap (Value.builtin "BaseException.__getattribute__")) = false := rfl
  have n2 : (Value.builtin "BaseException.__getattribute__" == Value.builtin "object.__getattribute__") = false := by decide +kernel
  have n1 : (onTheHeap (Value.ref D) && Value.builtin "BaseException.__getattribute__" == Value.builtin "object.__getattribute__") = false := by rw [n2]; rfl
  unfold getAttr? getAttrBy? getAttrBy
  refine wpAny_bind (wpAny_mkText (wpAny_bind (wpAny_attempt (wpAny_holding (wpAny_bind (t0.at (wpAny_bind (t1.at ?_))))))))
  show wpAny _ _ (if (onTheHeap (Value.ref D) && Value.builtin "BaseException.__getattribute__" == Value.builtin "object.__getattribute__") = true then _ else _) _ _ _
  rw [n1, if_neg Bool.false_ne_true]
  unfold getAttrByItsOwn hookBefore; refine wpAny_bind ?_
  rw [if_pos (show onTheHeap (Value.ref D) = true from rfl)]; refine t2.at ?_
  refine wpAny_bind (wpAny_attempt (wpAny_holding ?_)); unfold callGetattribute
  rw [n0, if_neg Bool.false_ne_true]; unfold boundAndCalled
  rw [PySem.F.excAttr_ValueError.ga.bind (.ref x)]; refine wpAny_bind (wpAny_pure ?_)
  show wpAny _ _ (call (.builtin "BaseException.__getattribute__") [.ref x, .str "__class__" t]) _ _ _
  refine wpAny_call (codeAny_call_builtin PySem.F.excAttr_ValueError.ga.plain PySem.F.entry_bexc_ga (@check_slot (model prog w) _ _ ⟨hp, g, d, t + 1, os⟩ "BaseException.__getattribute__" "BaseException" "__getattribute__" (.ref x) [.str "__class__" t] [] _ (by decide +kernel) (by decide +kernel) isB (PySem.F.args_bexc_ga (.ref x) (.str "__class__" t)) ?_))
  unfold Builtin.«object.__getattribute__»
  refine wpAny_bind (wpAny_of_eq (a := ((Value.ref x : Value), [Value.str "__class__" t])) (by first | rfl | (simp only [slotArgs]; rfl)) (wpAny_bind (wpAny_pure (wpAny_bind (t0.at (wpAny_bind (t3.at ?_)))))))
  show wpAny _ _ (holding [Value.builtin "object.__class__"] (call (.builtin "getset_descriptor.__get__") [.builtin "object.__class__", .ref x, .ref D]) >>= ret) _ _ _
  refine wpAny_bind (wpAny_holding (wpAny_call (class_get (s := ⟨hp, g, d, t + 1, os⟩) (ox := ox) (od := od) KI J c.g8 (wpAny_pure ?_))))
  show wpAny _ _ (handedOut (.ref D)) _ _ _
  rw [handedOut_of (v := .ref D) rfl]
  first
    | exact wpAny_pure (wpAny_pure h)
    | exact wpAny_pure h
    | exact wpAny_pure (wpAny_bind (wpAny_pure (wpAny_pure h)))
theorem EkC.kit (c : EkC K D) : KitX K (.ref x) (.ref D) (fun h => InstAt h x ox D od) where
  ty := fun _ _ _ J => J.type
  it := fun _ _ KI _ => by
    obtain ⟨cdD, hcD⟩ := Option.isSome_iff_exists.mp c.g4
    unfold clsIn at hcD
    split at hcD
    · rename_i c' d' cd' sl' ho
      intro A' Q' E' s' k q; unfold isType loadHead
      exact wpAny_bind (wpAny_loadPart (k _ _ (KI _ _ ho)) (wpAny_pure q))
    · cases hcD
  ne := fun h tp dd its n sl KI htp => by
    obtain ⟨cdD, hcD⟩ := Option.isSome_iff_exists.mp c.g4
    refine Bool.eq_false_iff.mpr fun q => ?_
    have e : D = tp := Value.ref.inj (beq_iff_eq.mp q)
    subst e; unfold clsIn at hcD
    split at hcD
    · rename_i c' d' cd' sl' ho
      have z := (KI _ _ ho).symm.trans htp; cases z
    · cases hcD
  ca := fun KI J k => c.ask KI J k
end Kit

open PySem PySem.Spec PyProof.Rows L2
/-! ### isinstance(e, T) -/
inductive Ty | bool | int | str | tuple | list
def Ty.name : Ty → String
  | .bool => "bool" | .int => "int" | .str => "str" | .tuple => "tuple" | .list => "list"
def isA : Ty → D → Bool
  | .bool, .bl _ => true
  | .int, .bl _ => true
  | .int, .int _ => true
  | .str, .str _ => true
  | .tuple, .tup _ => true
  | .list, .lst _ => true
  | _, _ => false
def tyN : D → Option String
  | .non => some "NoneType" | .bl _ => some "bool" | .int _ => some "int" | .str _ => some "str" | .tup _ => some "tuple" | .lst _ => some "list"
  | _ => none
def isT (T : Ty) (d : D) : Option Bool := (tyN d).map fun _ => isA T d
theorem isA_kit {T : Ty} {d : D} {n : String} (h : tyN d = some n) : kitB n T.name = some (isA T d) := by
  cases d <;> simp only [tyN] at h <;> cases h <;> cases T <;> simp only [Ty.name, isA] <;> decide +kernel
theorem Rb.tyx {C : Cn} {H : Hp} {d : D} {v : V} {n : String} (r : Rb C H d v) (h : tyN d = some n) : TyX C.K H v (.type n) := by
  cases d with
  | non => cases h; have := r.non; subst this; exact .base .non
  | bl b => cases h; have := r.bl; subst this; exact .base (.bl _)
  | int b => cases h; have := r.int; subst this; exact .base (.int _)
  | str b => cases h; have := r.str; subst this; exact .base (.str _)
  | tup ds =>
    cases h
    obtain ⟨a, vs, rfl, s, _⟩ := r.tup
    rcases s with (s | ⟨o, s⟩) | ⟨o, its, n, e, ec, _⟩
    · exact .base (.tup s)
    · exact .fTuple s
    · exact .kTuple e ec
  | lst ds =>
    cases h
    obtain ⟨a, vs, rfl, s, _⟩ := r.lst
    rcases s with (s | ⟨o, s⟩) | ⟨o, its, n, e, ec, _⟩
    · exact .base (.lst s)
    · exact .base (.frz s)
    · exact .kList e ec
  | _ => cases h
section
variable {X : Cx} {C : Cn} {pos p1 p2 : Pos} {e : Expr} {x : Str} {m : SS → O Hd}
def sIsi (q : D → Option Bool) (m : SS → O Hd) : SS → O D := fun σ => (m σ).bind fun h σ1 => match res σ1 h with
  | some d => ofOpt ((q d).map .bl) σ1
  | none => .bad
theorem isi_core {q : D → Option Bool} {W : WX} {τ : L2.St} {H : Hp} {Q : VK} (h : tE C W (sIsi q m) τ H Q) : tHd C W m τ H fun x H1 => ∃ d k, Rb C H1 d x ∧ q d = some k ∧ Q (.bl k) H1 := by
  refine (tG_bind (R := RH C) h).mono fun x H1 ⟨h1, r1, f1, G, σ, sr, p⟩ => ?_
  dsimp only at p
  split at p
  · rename_i d e
    cases e2 : q d with
    | none => rw [e2] at p; exact p.elim
    | some k => rw [e2] at p; exact ⟨d, k, sr.res r1 e, e2, p _ H1 .b sr (.refl _)⟩
  · exact p.elim
/-- a built-in type, asked of plain data -/
theorem me_isT (T : Ty) (hK : X.K = C.K) (hg : Gl X "isinstance") (hm : X.mg "isinstance" = none) (hgT : Gl X x) (hmT : X.mg x = none) (hv : bootBuiltins x = some (.type T.name)) (h : MH X C e m) (hn : x ≠ "__name__" := by decide) (hdb : (x == ("__debug__" : Str)) = false := by decide)
    (hs : starEach [e, .Name x p2] X.env = (false, eval e X.env) :: starEach [.Name x p2] X.env := by rfl) (hs2 : starEach [.Name x p2] X.env = (false, eval (.Name x p2) X.env) :: starEach [] X.env := by rfl)
    (hpl : (backTo pos (starEach [.Name x p2] X.env)).any (·.1) = false := by rfl) : ME X C (.Call (.Name "isinstance" p1) [e, .Name x p2] [] pos) (sIsi (isT T) m) := by
  refine ⟨fun E W tk => ?_⟩
  have pT : PE (X.wish E) (.Name x p2) (fun σ H Q => Q (.ty T.name) H) := ⟨fun pins s σ H Q I q => ld_blt (E := (X.wish E).xe) I hgT hmT hv ⟨.ty T.name, H, I, rfl, q⟩ hn hdb⟩
  refine (pe_callB (X := X.wish E) (call_isi (X := X.wish E)) hg hm rfl (pa_cons (h.pe E W tk) (pa_cons pT pa_nil hs2) hs) (by decide) (by decide) hs hpl).imp fun τ H Q q => ?_
  refine (isi_core q).mono fun v H1 ⟨d, k, r, e2, q2⟩ => ?_
  unfold isT at e2
  cases e3 : tyN d with
  | none => rw [e3] at e2; cases e2
  | some n =>
    rw [e3] at e2; cases e2
    refine ⟨v, .ty T.name, .type n, .type T.name, isA T d, rfl, .ty _, ?_, kit_ty (isA_kit e3), q2⟩
    rw [show (X.wish E).K = C.K from hK]; exact r.tyx e3
/-- a class of the text or a built-in one, asked of an exception -/
def isX (q : Nat → Option Bool) : D → Option Bool
  | .exc c _ => q c
  | .err c _ => q c
  | _ => none
theorem call_isX (hK : X.K = C.K) {q : Nat → Option Bool} {c : V} {cv : Value} (hcv : ∀ u, RelV c u → u = cv) (hq : ∀ i b, q i = some b → EkC C.K (C.ca i) ∧ PySem.W.kitOne C.K (.ref (C.ca i)) cv = some b) :
    CallR X (.builtin "isinstance") (fun xs H Q => ∃ x d b, xs = [x, c] ∧ Rb C H d x ∧ isX q d = some b ∧ Q (.bl b) H) := by
  intro pins s σ H xs us Q I r h
  obtain ⟨x, d, b, rfl, rd, eq, q2⟩ := h
  obtain ⟨u1, u2, rfl, r1, r2⟩ := vals2 r
  have := hcv _ r2; subst this
  unfold isX at eq
  split at eq
  · rename_i i d'
    obtain ⟨ek, e⟩ := hq _ _ eq
    have rd : Rp C H (.exc i d') x := rd
    simp only [Rp] at rd
    obtain ⟨a, dd, y, fs, rfl, ha, hd, _⟩ := rd
    obtain rfl : u1 = Value.ref a := r1
    obtain ⟨⟨oe, vs, e1, e2, e3⟩, _, _⟩ : ObjOk X.prog X.w H s.heap a (exH (.ref (C.ca i)) dd a) := I.hok a _ ha
    obtain ⟨mA, hns, hr⟩ : ObjOk X.prog X.w H s.heap dd (.xd fs) := I.hok dd _ hd
    obtain ⟨od, ho, hlk⟩ := lookIn_ns hns
    have J : PySem.W.InstAt s.heap a oe (C.ca i) (some od) := ⟨e1, e2.1, by unfold PySem.W.notCls; rw [e3] <;> rfl, by rw [e2.2]; exact ho⟩
    exact PySem.W.kia_one ek.kit (hK ▸ I.kIn) J e (fun z => nomatch z) fun tk => ⟨.bl b, H, I.tok tk, rfl, q2⟩
  · rename_i i d'
    obtain ⟨ek, e⟩ := hq _ _ eq
    have rd : Rp C H (.err i d') x := rd
    simp only [Rp] at rd
    obtain ⟨a, dd, t1, y, fs, rfl, ha, hd, _⟩ := rd
    obtain rfl : u1 = Value.ref a := r1
    obtain ⟨e1, _, _⟩ : ObjOk X.prog X.w H s.heap a (exoA a (C.ca i) t1 (some dd)) := I.hok a _ ha
    obtain ⟨mA, hns, hr⟩ := exd_at I.hok hd
    obtain ⟨od, ho, hlk⟩ := lookIn_ns hns
    have J : PySem.W.InstAt s.heap a _ (C.ca i) (some od) := ⟨e1, rfl, rfl, ho⟩
    exact PySem.W.kia_one ek.kit (hK ▸ I.kIn) J e (fun z => nomatch z) fun tk => ⟨.bl b, H, I.tok tk, rfl, q2⟩
  · cases eq
theorem me_isO {q : Nat → Option Bool} {cv : Addr} (hK : X.K = C.K) (hq : ∀ i b, q i = some b → EkC C.K (C.ca i) ∧ PySem.W.kitOne C.K (.ref (C.ca i)) (.ref cv) = some b) (hg : Gl X "isinstance") (hm : X.mg "isinstance" = none) (hgT : Gl X x) (hmT : X.mg x = some (.ref cv)) (h : MH X C e m) (hdb : (x == ("__debug__" : Str)) = false := by decide)
    (hs : starEach [e, .Name x p2] X.env = (false, eval e X.env) :: starEach [.Name x p2] X.env := by rfl) (hs2 : starEach [.Name x p2] X.env = (false, eval (.Name x p2) X.env) :: starEach [] X.env := by rfl)
    (hpl : (backTo pos (starEach [.Name x p2] X.env)).any (·.1) = false := by rfl) : ME X C (.Call (.Name "isinstance" p1) [e, .Name x p2] [] pos) (sIsi (isX q) m) := by
  refine ⟨fun E W tk => ?_⟩
  have pT : PE (X.wish E) (.Name x p2) (fun σ H Q => Q (.ref cv) H) := ⟨fun pins s σ H Q I q => ld_glob (E := (X.wish E).xe) I hgT hmT ⟨.ref cv, H, I, rfl, q⟩ hdb⟩
  refine (pe_callB (X := X.wish E) (call_isX (X := X.wish E) (C := C) hK (c := .ref cv) (cv := .ref cv) (fun u r => r) hq) hg hm rfl (pa_cons (h.pe E W tk) (pa_cons pT pa_nil hs2) hs) (by decide) (by decide) hs hpl).imp fun τ H Q q => ?_
  exact (isi_core q).mono fun v H1 ⟨d, k, r, e2, q2⟩ => ⟨v, d, k, rfl, r, e2, q2⟩
theorem me_isB {q : Nat → Option Bool} {T : String} (hK : X.K = C.K) (hq : ∀ i b, q i = some b → EkC C.K (C.ca i) ∧ PySem.W.kitOne C.K (.ref (C.ca i)) (.type T) = some b) (hg : Gl X "isinstance") (hm : X.mg "isinstance" = none) (hgT : Gl X x) (hmT : X.mg x = none) (hv : bootBuiltins x = some (.type T)) (h : MH X C e m) (hn : x ≠ "__name__" := by decide) (hdb : (x == ("__debug__" : Str)) = false := by decide)
    (hs : starEach [e, .Name x p2] X.env = (false, eval e X.env) :: starEach [.Name x p2] X.env := by rfl) (hs2 : starEach [.Name x p2] X.env = (false, eval (.Name x p2) X.env) :: starEach [] X.env := by rfl)
    (hpl : (backTo pos (starEach [.Name x p2] X.env)).any (·.1) = false := by rfl) : ME X C (.Call (.Name "isinstance" p1) [e, .Name x p2] [] pos) (sIsi (isX q) m) := by
  refine ⟨fun E W tk => ?_⟩
  have pT : PE (X.wish E) (.Name x p2) (fun σ H Q => Q (.ty T) H) := ⟨fun pins s σ H Q I q => ld_blt (E := (X.wish E).xe) I hgT hmT hv ⟨.ty T, H, I, rfl, q⟩ hn hdb⟩
  refine (pe_callB (X := X.wish E) (call_isX (X := X.wish E) (C := C) hK (c := .ty T) (cv := .type T) (fun u r => r) hq) hg hm rfl (pa_cons (h.pe E W tk) (pa_cons pT pa_nil hs2) hs) (by decide) (by decide) hs hpl).imp fun τ H Q q => ?_
  exact (isi_core q).mono fun v H1 ⟨d, k, r, e2, q2⟩ => ⟨v, d, k, rfl, r, e2, q2⟩
end
end TL

set_option Elab.async false
set_option linter.all false
set_option maxRecDepth 100000
set_option maxHeartbeats 4000000
/-! TL14: exceptions that are made and kept as values, with their texts; by keyword too. -/
namespace TL
section Raw
open PySem PySem.W PySem.Calls PyProof.Rows PySem.HandSPX PySem.Builtin
variable {prog : Program} {w : World} {M : Model} {A : Around} {E : Value → Shared → Prop} {R : Result → Shared → Prop} {h : Heap} {g : Array GenState} {d : Drawn} {t : Nat} {os : OsState}
variable {nm q : Str} {c N : Addr} {bs bm bmB : List Value} {hdct : Bool} {sn : List Str} {sub : List Value} {ab : Bool} {col : Option Bool} {dd : Option Addr} {k0 k1 k2 k3 k5 : Option Value} {B newId initId : String} {ws : List (Str × Value)} {vs : List Value} {fI : Addr}
/-- C(.., k = v): the check of __new__ -/
theorem kw_check_new (F : ExcBaseFacts B newId initId bmB) (same : ∀ T : String, bm.contains (.type T) = bmB.contains (.type T)) {Q : Unit → Shared → Prop}
    (at_ : h.get? c = some (excClassObj nm q c N bs bm hdct sn sub ab col dd k0 k1 k2 k3 k5 newId)) (ok : Q () ⟨h, g, d, t, os⟩) : wpAny M A (checkBuiltinCall newId ⟨.ref c :: vs, ws⟩) Q E ⟨h, g, d, t, os⟩ := by
  have has : (Value.ref c :: bm).contains (.type B) = true := by rw [List.contains_cons, same, F.hasB, Bool.or_true]
  have hs := F.noStar
  simp only [checkBuiltinCall, F.newKind, F.newSplit, F.newRow]
  repeat (first | refine wpAny_loadPart_at at_ ?_ | (refine wpAny_isSubtype_exc at_ ?_; rw [has]) | refine wpAny_staticBase_exc at_ ?_ | refine wpAny_madeBy_exc at_ ?_ | simp only [bne_self_eq_false, Bool.false_eq_true, if_false] | wp_step)
  exact ok
theorem kw_new (F : ExcBaseFacts B newId initId bmB) (same : ∀ T : String, bm.contains (.type T) = bmB.contains (.type T)) (at_ : h.get? c = some (excClassObj nm q c N bs bm hdct sn sub ab col dd k0 k1 k2 k3 k5 newId))
    (ok : R (.ok (.ret (.ref (h.objs.size + 1)))) ⟨(h.push (kdv_tup vs)).push (excO c h.objs.size), g, d, t, os⟩) (small : vs.length ≤ sizeLine) :
    codeAny (model prog w) A (.builtin newId ⟨.ref c :: vs, ws⟩) R ⟨h, g, d, t, os⟩ := by
  have fe := F.ends
  have has : (Value.ref c :: bm).contains (.type B) = true := by rw [List.contains_cons, same, F.hasB, Bool.or_true]
  have hasA : (Value.ref c :: bm).contains (.type "AttributeError") = false := by rw [List.contains_cons, same, F.noAttr]; rfl
  have hasN : (Value.ref c :: bm).contains (.type "NameError") = false := by rw [List.contains_cons, same, F.noName]; rfl
  refine codeAny_builtinAt F.entry ?_
  unfold Builtin.«BaseException.__new__»; refine PySem.wpAt_bind ?_
  show PySem.wpAt _ _ _ (stack >>= _) _ _ _
  refine PySem.wpAt_bind (PySem.wpAt_stack fun p below => PySem.wpAt_of_wpAny ?_); wp_walk
  refine PySem.wpAt_of_wpAny ?_; rw [F.owner]
  repeat (first | with_reducible refine wpAny_madeHere_exc F.canon at_ ?_ | with_reducible refine wpAny_loadPart_at at_ ?_ | (with_reducible refine wpAny_isSubtype_exc at_ ?_; first | rw [has] | rw [hasA] | rw [hasN]) | wp_step)
  show R _ _
  rw [Heap.size_push]; exact ok
theorem kw_type (F : ExcBaseFacts B newId initId bmB) (same : ∀ T : String, bm.contains (.type T) = bmB.contains (.type T)) {Q : Fin → Shared → Prop} (at_ : h.get? c = some (excClassObj nm q c N bs bm hdct sn sub ab col dd k0 k1 k2 k3 k5 newId))
    (hi : W.Looks (model prog w) h (typeLookup (.ref c) "__init__") (some (.ref fI))) (hb : ∀ self, W.Looks (model prog w) h (bindSpecial (.ref fI) self) (.ref fI, [self])) (small : vs.length ≤ sizeLine)
    (ok : codeAny (model prog w) A (.call (.ref fI) ⟨.ref (h.objs.size + 1) :: vs, ws⟩) (fun r s' => match r with | .ok (.ret v) => v = .none ∧ Q (.done (.ret (.ref (h.objs.size + 1)))) s' | .ok _ => False | .error e => E e s') ⟨(h.push (W.kdv_tup vs)).push (excO c h.objs.size), g, d, t, os⟩) :
    wpAny (model prog w) A (Builtin.«type.__call__» ⟨.ref c :: vs, ws⟩) Q E ⟨h, g, d, t, os⟩ := by
  repeat (first | with_reducible refine wpAny_loadPart_at at_ ?_ | with_reducible refine wpAny_madeBy_exc at_ ?_ | wp_step)
  refine codeAny_call_builtin_code (Code.quiet_builtin _ F.quiet) (kw_check_new F same at_ (kw_new F same at_ ?_ small))
  show wpAny _ _ _ _ _ _
  have keep : ∀ b o, h.get? b = some o → ((h.push (W.kdv_tup vs)).push (excO c h.objs.size)).get? b = some o := fun b o e => Heap.get?_push_of_some _ (Heap.get?_push_of_some _ e)
  have at2 := keep _ _ at_
  have new : ((h.push (W.kdv_tup vs)).push (excO c h.objs.size)).get? (h.objs.size + 1) = some (excO c h.objs.size) := by heap_get
  have self : (Value.ref c :: bm).contains (.ref c) = true := by simp
  have i2 := hi.keeps keep
  have b2 := (hb (.ref (h.objs.size + 1))).keeps keep
  unfold isInstance
  repeat (first | with_reducible refine wpAny_loadPart_at new ?_ | (with_reducible refine wpAny_isSubtype_exc at2 ?_; rw [self]) | wp_step)
  show wpAny _ _ (typeLookup (.ref c) _) _ _ _
  refine i2.at (wpAny_holding (wpAny_bind (b2.at ?_)))
  refine wpAny_bind (wpAny_call (codeAny_mono ok fun r s' z => ?_))
  rcases r with e | (v | _ | _ | _) <;> first | exact z | exact z.elim | skip
  obtain ⟨rfl, z⟩ := z
  first | exact wpAny_pure (wpAny_pure z) | (wp_walk; exact z)
theorem kw_check_type {Q : Unit → Shared → Prop} (at_ : h.get? c = some (excClassObj nm q c N bs bm hdct sn sub ab col dd k0 k1 k2 k3 k5 newId)) (ok : Q () ⟨h, g, d, t, os⟩) : wpAny M A (checkBuiltinCall "type.__call__" ⟨.ref c :: vs, ws⟩) Q E ⟨h, g, d, t, os⟩ := by
  have f3 := tc_sub
  have ty : (⟨h, g, d, t, os⟩ : Shared).TypeIs (.ref c) "type" := ⟨_, at_, rfl⟩
  simp only [checkBuiltinCall, tc_kind, tc_split]
  repeat (any_goals (first | assumption | with_reducible refine wpAny_loadPart_at at_ ?_ | with_reducible refine wpAny_onRaise ?_ | with_reducible refine wpAny_map ?_ | wp_step))
theorem kw_call (F : ExcBaseFacts B newId initId bmB) (same : ∀ T : String, bm.contains (.type T) = bmB.contains (.type T)) (at_ : h.get? c = some (excClassObj nm q c N bs bm hdct sn sub ab col dd k0 k1 k2 k3 k5 newId))
    (hi : W.Looks (model prog w) h (typeLookup (.ref c) "__init__") (some (.ref fI))) (hb : ∀ self, W.Looks (model prog w) h (bindSpecial (.ref fI) self) (.ref fI, [self])) (small : vs.length ≤ sizeLine)
    (ok : codeAny (model prog w) (A.under (.builtin "type.__call__" ⟨.ref c :: vs, ws⟩)) (.call (.ref fI) ⟨.ref (h.objs.size + 1) :: vs, ws⟩) (W.InitBack (h.objs.size + 1) R) ⟨(h.push (W.kdv_tup vs)).push (excO c h.objs.size), g, d, t, os⟩) :
    codeAny (model prog w) A (.call (.ref c) ⟨vs, ws⟩) R ⟨h, g, d, t, os⟩ := by
  have f1 := tc_lookup
  have f2 := tc_bind (.ref c)
  have ty : (⟨h, g, d, t, os⟩ : Shared).TypeIs (.ref c) "type" := ⟨_, at_, rfl⟩
  refine codeAny_of_tree ?_
  show wpAny _ _ (callAny (.ref c) _) _ _ _
  repeat (any_goals (first | assumption | with_reducible refine wpAny_loadPart_at at_ ?_ | wp_step))
  refine ⟨rfl, ?_⟩
  refine codeAny_call_builtin_at (Code.quiet_builtin _ (by decide +kernel)) entry_typeCall (kw_check_type at_ (kw_type F same at_ hi hb small (codeAny_mono ok fun r s' z => ?_)))
  rcases r with e | (v | _ | _ | _) <;> exact z
/-- the base's __init__: the args are laid anew -/
theorem init_tup (F : ExcBaseFacts B newId initId bmB) (same : ∀ T : String, bm.contains (.type T) = bmB.contains (.type T)) {e t0 : Addr}
    (at_ : h.get? c = some (excClassObj nm q c N bs bm hdct sn sub ab col dd k0 k1 k2 k3 k5 newId)) (he : h.get? e = some (excO c t0)) (small : vs.length ≤ sizeLine)
    (ok : ∀ h' t1, (∀ b o, b ≠ e → h.get? b = some o → h'.get? b = some o) → h'.get? e = some (excO c t1) → h.objs.size ≤ t1 → IsTup h' t1 vs.toArray → R (.ok (.ret .none)) ⟨h', g, d, t, os⟩) :
    codeAny (model prog w) A (.call (.builtin initId) ⟨.ref e :: vs, []⟩) R ⟨h, g, d, t, os⟩ := by
  refine codeAny_call_builtin F.init.plain F.initEntry (check_init_own F same at_ he rfl ?_)
  wp_walk
  have ne : h.objs.size ≠ e := (Nat.ne_of_lt (Heap.lt_size he)).symm
  refine ok _ h.objs.size (fun b o hb ho => ?_) ?_ (Nat.le_refl _) ?_
  · rw [Heap.get?_update_other _ _ (Ne.symm hb)]; exact Heap.get?_push_of_some _ ho
  · rw [Heap.get?_update_self _ (Heap.get?_push_of_some _ he) rfl]; rfl
  · obtain ⟨o, q1, q2, n, q3⟩ := IsTup.new h vs.toArray
    exact ⟨o, by rw [Heap.get?_update_other _ _ (Ne.symm ne)]; exact q1, q2, n, q3⟩
end Raw
end TL

set_option Elab.async false
set_option linter.all false
set_option maxRecDepth 100000
set_option maxHeartbeats 4000000
/-! TL15: exceptions that are made and kept as values: their objects, over the heap that is known. -/
namespace TL
open PySem PySem.Spec PyProof.Rows L2
theorem exoA_own {e c x t1 : Addr} {d : Option Addr} : exoA e c t1 d ≠ .own x := fun z => by
  have z' : HO.ext _ = HO.own x := z; cases z'
theorem exoA_tup {e c t1 : Addr} {d : Option Addr} {xs : List V} : exoA e c t1 d ≠ .tup xs := fun z => by
  have z' : HO.ext _ = HO.tup xs := z; cases z'
theorem exoA_frz {e c t1 : Addr} {d : Option Addr} {o : Obj} {u : HO} : exoA e c t1 d ≠ .frz o u := fun z => by
  have z' : HO.ext _ = HO.frz o u := z; cases z'
theorem exoA_tbl {e c t1 : Addr} {d : Option Addr} {ps : Array Value} : exoA e c t1 d ≠ .tbl ps := fun z => by
  have z' : HO.ext _ = HO.tbl ps := z; cases z'
theorem exoA_ok {P : Program} {w : World} {H : Hp} {h : Heap} {e c t1 : Addr} {d : Option Addr} (he : h.get? e = some ({ cls := .ref c, dict := d, data := .fields #[.ref t1, .none, .none, .none, .bool false, .none] } : Obj)) : ObjOk P w H h e (exoA e c t1 d) :=
  ⟨he, ⟨_, he⟩, fun h1 h2 z k => k _ z⟩
theorem exoA_at {P : Program} {w : World} {H : Hp} {h : Heap} {e c t1 : Addr} {d : Option Addr} (hok : HOk P w H h) (he : H e = some (exoA e c t1 d)) : h.get? e = some ({ cls := .ref c, dict := d, data := .fields #[.ref t1, .none, .none, .none, .bool false, .none] } : Obj) := by
  obtain ⟨x, _, _⟩ : ObjOk P w H h e (exoA e c t1 d) := hok e _ he
  exact x
section
variable {X : Cx} {pins : List (Addr × Obj)} {τ : L2.St} {H : Hp} {s : Shared} {a c t1 : Addr} {f m : Str} {y : V} {u : Value} {Q : Unit → Shared → Prop} {E : Value → Shared → Prop} {A : Around} {B newId initId : String} {tl : List Value}
/-- one thing that stands is written over, one thing is new -/
theorem inv_two {od o2 : HO} {hp h' : Heap} {g : Array GenState} {dr : Drawn} {t tk' : Nat} {os : OsState} {dx : Addr} (I : Inv X pins τ H ⟨hp, g, dr, t, os⟩) {o1 : HO} (e : H a = some o1) (n1 : ∀ x, o1 ≠ .own x) (n2 : ∀ xs, o1 ≠ .tup xs) (n3 : ∀ o u, o1 ≠ .frz o u) (n4 : ∀ ps, o1 ≠ .tbl ps)
    (k : ∀ b o, b ≠ a → hp.get? b = some o → h'.get? b = some o) (dn : hp.objs.size ≤ dx) (hx : ∃ o, h'.get? a = some o) (ka : ObjOk X.prog X.w (upd (upd H dx od) a o2) h' a o2) (kd : ObjOk X.prog X.w (upd (upd H dx od) a o2) h' dx od) : Inv X pins τ (upd (upd H dx od) a o2) ⟨h', g, dr, tk', os⟩ := by
  have fresh : H dx = none := I.hok.fresh dn
  have ndx : ∀ {b : Addr} {o : Obj}, hp.get? b = some o → b ≠ dx := fun {b o} z => Nat.ne_of_lt (Nat.lt_of_lt_of_le (Heap.lt_size z) dn)
  have nea : ∀ {b : Addr}, H b = none → b ≠ a := fun {b} n z => by rw [z, e] at n; cases n
  have U : Un X.fs [] H (upd (upd H dx od) a o2) hp h' := by
    refine ⟨fun b o z n _ _ => k b o (nea n) z, fun b o z n _ _ => ⟨o.slots, k b o (nea n) z⟩, fun b o z n _ => ?_, fun b o z _ => ?_, fun b xs z => ?_, fun b o v z => ?_, fun b ps z => ⟨#[], ?_⟩⟩
    · rw [upd_ne (nea n), upd_ne (ndx z)]; exact n
    · by_cases hb : b = a
      · rw [hb]; exact hx
      · exact ⟨o, k b o hb z⟩
    · rw [upd_ne (at_ne e z (n2 _)), upd_ne (ne_of_none z fresh)]; exact z
    · rw [upd_ne (at_ne e z (n3 _ _)), upd_ne (ne_of_none z fresh)]; exact z
    · rw [upd_ne (at_ne e z (n4 _)), upd_ne (ne_of_none z fresh), z]; simp
  refine I.un (t' := tk') U fun b o z => ?_
  by_cases hb : b = a
  · subst hb
    rw [upd_same] at z; cases z
    exact ka
  · rw [upd_ne hb] at z
    by_cases hd : b = dx
    · subst hd
      rw [upd_same] at z; cases z
      exact kd
    · rw [upd_ne hd] at z
      refine (I.hok b o z).stay (fun c' v hc w => k c' v ?_ w) (fun c' hc => ?_) (fun c' xs hc => ?_)
      · rcases hc with hc | hc
        · rw [hc]; exact hb
        · exact at_ne e hc (n1 _)
      · rw [upd_ne (at_ne e hc (n1 _)), upd_ne (ne_of_none hc fresh)]; exact hc
      · rw [upd_ne (at_ne e hc (n2 _)), upd_ne (ne_of_none hc fresh)]; exact hc
theorem st_err (T : ClsE X.K c B newId initId tl) (I : Inv X pins τ H s) (e : H a = some (exoA a c t1 none)) (hno : PySem.W.findIn X.K (.ref c) f = some none) (ry : RelV y u)
    (h : ∀ dx s', H dx = none → dx ≠ a → Inv X pins τ (upd (upd H dx (exd dx [(f, y)])) a (exoA a c t1 (some dx))) s' → Q () s') : wpAny (model X.prog X.w) A (setAttr (.ref a) f u) Q E s := by
  obtain ⟨nm, q, N, bs, bm, sn, sub, ab, col, dd, k0, k1, k2, k3, k5, hC, hbm⟩ := T.cls
  have hcl : PySem.W.clsIn X.K c = some { name := nm, bases := bs, mro := .ref c :: bm, ns := N, qualname := q, hasDict := true, slotNames := sn, subclasses := sub, abstract := ab, collection := col, hasDel := false } := by unfold PySem.W.clsIn; rw [hC] <;> rfl
  have ho := exoA_at I.hok e
  obtain ⟨hp, g, d, t, os⟩ := s
  refine PySem.W.set_plain I.kIn (ox := { cls := .ref c, dict := none, data := .fields #[.ref t1, .none, .none, .none, .bool false, .none] }) (od := none) ⟨ho, rfl, rfl, trivial⟩ T.sa ?_
  refine set_first T.bk I.kIn ho hcl (show refsT tl (.ref c :: bm) = true from hbm) rfl hno (fun h' tk' dx k dn dne hx hn => ?_)
  exact h dx _ (I.hok.fresh dn) dne (inv_two I e (fun _ => exoA_own) (fun _ => exoA_tup) (fun _ _ => exoA_frz) (fun _ => exoA_tbl) k dn ⟨_, hx⟩ (exoA_ok hx) (exd_ok hn (relO_put (fs := []) ry fun g => True.intro)))
/-- Base.__init__(self, text) as the built-in does it -/
theorem init_err {tk : Tok} {Q : Value → Shared → Prop} (T : ClsE X.K c B newId initId tl) (I : Inv X pins τ H s) (e : H a = some (exo a c none)) (h : ∀ t1 s', H t1 = none → t1 ≠ a → Inv X pins τ (upd (upd H t1 (.tup [.str m])) a (exoA a c t1 none)) s' → Q .none s') :
    wpAny (model X.prog X.w) A (call (.builtin initId) [.ref a, .str m tk]) Q E s := by
  obtain ⟨nm, q, N, bs, bm, sn, sub, ab, col, dd, k0, k1, k2, k3, k5, hC, hbm⟩ := T.cls
  obtain ⟨t0, ho⟩ := exo_at I.hok e
  obtain ⟨hp, g, d, t, os⟩ := s
  refine wpAny_call (init_tup T.bk.bf (fun n => refsT_has n bm hbm) (I.kIn _ _ hC) ho (by rw [sizeLine_eq]; simp) fun h' t2 k hx tn tup => ?_)
  have ne : t2 ≠ a := (Nat.ne_of_lt (Nat.lt_of_lt_of_le (Heap.lt_size ho) tn)).symm
  refine h t2 _ (I.hok.fresh tn) ne (inv_two (tk' := t) I e (fun _ => exo_own) (fun _ => exo_tup) (fun _ _ => exo_frz) (fun _ => exo_tbl) k tn ⟨_, hx⟩ (exoA_ok hx) ?_)
  exact (show ObjOk X.prog X.w _ h' t2 (.tup [.str m]) from ⟨by rw [sizeLine_eq]; simp, [.str m tk], .cons ⟨tk, rfl⟩ .nil, tup⟩)
end
section
variable {X : Cx} {o e : Expr} {es : List Expr} {to te : TE} {ta : TA} {f m : Str} {p p' p1 p2 pos : Pos} {B newId initId : String} {tl : List Value}
def tIniE (K : PySem.W.Frag) (B newId initId : String) (tl : List Value) (m : Str) (ta : TA) : TE := fun σ H Q => ta σ H fun vs H1 => ∃ (a c : Addr), vs = [.ref a, .str m] ∧ ClsE K c B newId initId tl ∧ H1 a = some (exo a c none) ∧ ∀ t1, H1 t1 = none → t1 ≠ a → Q .non (upd (upd H1 t1 (.tup [.str m])) a (exoA a c t1 none))
theorem pe_iniE {pl : Sem Bool} {x : Str} (hB : BaseAt X x p1 initId) (ha : PA X (e :: es) ta)
    (hc : eval (.Call (.Attribute (.Name x p1) "__init__" p2) (e :: es) [] pos) X.env = (do
      let ov ← eval (.Name x p1) X.env
      standAt p2.atName
      let (f, first) ← holding [ov] (getMethod ov "__init__" pl)
      callWith pos f first (backTo pos (starEach (e :: es) X.env)) (backToKw pos (keywordEach [] X.env))) := by rfl)
    (he : starEach (e :: es) X.env = (false, eval e X.env) :: starEach es X.env := by rfl) (hpl : (backTo pos (starEach es X.env)).any (·.1) = false := by rfl) :
    PE X (.Call (.Attribute (.Name x p1) "__init__" p2) (e :: es) [] pos) (tIniE X.K B newId initId tl m ta) := by
  refine ⟨fun pins s σ H Q I h => ?_⟩
  refine PySem.W.methodCall_KW (hB pins σ H s pl X.xe _ I fun s1 I1 => ?_) hc
  show wpAny _ _ (callWith pos (Value.builtin initId) [] (backTo pos (starEach (e :: es) X.env)) []) _ _ _
  refine PyProof.Rows.callWith_method1 (thn (ha.run pos pins _ σ H _ I1 h) fun us s2 ⟨vs, H1, I2, r1, a, c, ev, T, ea, q⟩ => ?_) he hpl
  subst ev
  obtain ⟨u1, u2, rfl, ra, t, rfl⟩ := vals2 r1
  obtain rfl : u1 = Value.ref a := ra
  exact init_err T I2 ea fun t1 s' n ne J => ⟨.non, _, J, rfl, q t1 n ne⟩
def tFstE (K : PySem.W.Frag) (B newId initId : String) (tl : List Value) (f : Str) (to te : TE) : TS := fun D σ H => te σ H fun y H1 => to σ H1 fun x H2 => ∃ a c t1 : Addr, x = .ref a ∧ ClsE K c B newId initId tl ∧ PySem.W.findIn K (.ref c) f = some none ∧
  H2 a = some (exoA a c t1 none) ∧ ∀ dx, H2 dx = none → dx ≠ a → D.nx σ (upd (upd H2 dx (exd dx [(f, y)])) a (exoA a c t1 (some dx)))
theorem ps_fstE (ho : PE X o to) (he : PE X e te) (hs : swapsWith e (some (.Attribute o f p')) pos.line X.env = pure false := by rfl) : PS X (.Assign [.Attribute o f p'] e pos) (tFstE X.K B newId initId tl f to te) := by
  refine ⟨fun pins s σ H D I h => ?_⟩
  refine plainObj_wpAny_Assign_Attribute (thn (he.run pins s σ H _ I h) fun v s1 ⟨y, H1, I1, r1, q1⟩ => thn (ho.run pins s1 σ H1 _ I1 q1) fun u s2 ⟨x, H2, I2, r2, a, c, t1, ex, T, hno, ea, q⟩ => ?_) hs
  subst ex
  obtain rfl : u = Value.ref a := r2
  exact st_err T I2 ea hno r1 fun dx s' n ne J => ⟨σ, _, J, q dx n ne⟩
/-- the heap behind __init__ -/
def madeH (H : Hp) (a c t1 dx : Addr) (f m : Str) (y : V) : Hp := upd (upd (upd H t1 (.tup [.str m])) dx (exd dx [(f, y)])) a (exoA a c t1 (some dx))
/-- what __init__(self, value) promises -/
def spE (c : Addr) (f m : Str) : Sp := fun vs H Q _ => ∃ (a : Addr) (y : V), vs = [.ref a, y] ∧ H a = some (exo a c none) ∧ ∀ t1 dx, H t1 = none → t1 ≠ a → H dx = none → dx ≠ a → dx ≠ t1 → Q .non (madeH H a c t1 dx f m y)
end
/-- def __init__(self, x): Base.__init__(self, text); self.f = x -/
theorem init_fn {P : Program} {w : World} {K : PySem.W.Frag} {mg : Str → Option Value} {base : Heap} {fI c : Addr} {qual pn f m bn : Str} {params : Arguments} {scope : Scope} {dvs : List V} {fd : FuncData} {B newId initId : String} {tl : List Value} {p1 p2 p3 p4 p5 p6 p7 p8 p9 p10 : Pos} {j : Nat}
    (F : FunD K "__init__" qual params [.Expr (.Call (.Attribute (.Name bn p1) "__init__" p2) [.Name "self" p3, .Constant (.str m) j p4] [] p5) p6, .Assign [.Attribute (.Name "self" p7) f p8] (.Name pn p9) p10] scope dvs [] fI fd)
    (S : FnScope ["self", pn] ["self", pn] scope) (hpd : (pn == ("__debug__" : Str)) = false) (hpc : (pn == ("__classdict__" : Str)) = false) (T : ClsE K c B newId initId tl) (hno : PySem.W.findIn K (.ref c) f = some none)
    (hB : ∀ (cdv : Value) (A : Around) (outer : List Env) (s : Shared) (H : Hp) (E : XK), BaseAt (cxOf CX0 P w K mg base ["self", pn] qual scope fI cdv A outer s H E) bn p1 initId)
    (hc : ∀ (cdv : Value) (n : Nat), ∃ pl : Sem Bool, eval (.Call (.Attribute (.Name bn p1) "__init__" p2) [.Name "self" p3, .Constant (.str m) j p4] [] p5) (envOfC qual scope n fI cdv) = (do
      let ov ← eval (.Name bn p1) (envOfC qual scope n fI cdv)
      standAt p2.atName
      let (f, first) ← holding [ov] (getMethod ov "__init__" pl)
      callWith p5 f first (backTo p5 (starEach [.Name "self" p3, .Constant (.str m) j p4] (envOfC qual scope n fI cdv))) (backToKw p5 (keywordEach [] (envOfC qual scope n fI cdv)))))
    (hs1 : ∀ (cdv : Value) (n : Nat), swapsWith (.Call (.Attribute (.Name bn p1) "__init__" p2) [.Name "self" p3, .Constant (.str m) j p4] [] p5) none p6.line (envOfC qual scope n fI cdv) = pure false)
    (hs2 : ∀ (cdv : Value) (n : Nat), swapsWith (.Name pn p9) (some (.Attribute (.Name "self" p7) f p8)) p10.line (envOfC qual scope n fI cdv) = pure false) : FnOk P w K mg base CX0 1 fI fd ["self", pn] (spE c f m) := by
  have vis : ∀ x : Str, x ∈ (["self", pn] : List Str) → Vis scope x := fun x hx => (S.par x hx).elim .inl fun z => .inr (.inl z)
  refine F.ok S (fun vs H Q E ⟨a, y, e, _⟩ => by rw [e]; rfl) fun cdv A outer s H vs Q E hr ⟨a, y, e, ha, q⟩ => ?_
  subst e
  obtain ⟨pl, ec⟩ := hc cdv s.heap.objs.size
  refine ⟨_, pss_cons (ps_expr (pe_iniE (B := B) (newId := newId) (initId := initId) (tl := tl) (m := m) (hB cdv A outer s H E) (pa_cons (pv 0 rfl (vis _ (by simp)) (by decide) (by decide)) (pa_cons pe_str pa_nil)) ec) (hs1 cdv _))
    (pss_one (ps_fstE (B := B) (newId := newId) (initId := initId) (tl := tl) (pv 0 rfl (vis _ (by simp)) (by decide) (by decide)) (pv 1 rfl (vis _ (by simp)) hpd hpc) (hs2 cdv _))), ?_⟩
  refine ⟨.ref a, rfl, a, c, rfl, T, ha, fun t1 n1 ne1 => ?_⟩
  have n2 : t1 ≠ a := ne1
  refine ⟨y, rfl, .ref a, rfl, a, c, t1, rfl, T, hno, upd_same, fun dx nd ned => ?_⟩
  have ndt : dx ≠ t1 := fun z => by
    rw [z, upd_ne n2, upd_same] at nd; cases nd
  have nd0 : H dx = none := by rw [upd_ne ned, upd_ne ndt] at nd; exact nd
  have eH : upd (upd (upd (upd H t1 (.tup [.str m])) a (exoA a c t1 none)) dx (exd dx [(f, y)])) a (exoA a c t1 (some dx)) = madeH H a c t1 dx f m y := by
    unfold madeH
    funext b
    by_cases hb : b = a
    · rw [hb, upd_same, upd_same]
    · rw [upd_ne hb, upd_ne hb]
      by_cases hd : b = dx
      · rw [hd, upd_same, upd_same]
      · rw [upd_ne hd, upd_ne hd, upd_ne hb]
  rw [eH]
  exact q t1 dx n1 n2 nd0 ned ndt
end TL

set_option Elab.async false
set_option linter.all false
set_option maxRecDepth 100000
set_option maxHeartbeats 4000000
/-! TL16: C(x), C(k = x), C() as values; e.f, str(e) of them. -/
namespace TL
open PySem PySem.Spec PyProof.Rows L2
structure ClsO (P : Program) (w : World) (K : PySem.W.Frag) (mg : Str → Option Value) (base : Heap) (c fI : Addr) (f m : Str) (B newId initId : String) (tl : List Value) (fd : FuncData) (ps : List Str) : Prop where
  T : ClsE K c B newId initId tl
  iC : PySem.W.findIn K (.ref c) "__init__" = some (some (.ref fI))
  tI : PySem.W.typeIn K (.ref fI) = some (.type "function")
  fn : FnOk P w K mg base CX0 1 fI fd ps (spE c f m)
section
variable {X : Cx} {pins : List (Addr × Obj)} {τ : L2.St} {H : Hp} {s : Shared} {c fI : Addr} {f m : Str} {B newId initId : String} {tl : List Value} {fd : FuncData} {ps : List Str} {us : List Value} {ws : List (Str × Value)} {uy : Value} {y : V}
theorem run_err {Q : VK} (Z : ClsO X.prog X.w X.K X.mg X.base c fI f m B newId initId tl fd ps) (hr : Room 3 X.A) (I : Inv X pins τ H s) (ry : RelV y uy) (hl0 : us.length ≤ 1000) (hb : ∀ (s' : Shared) (self : Addr), X.K.In s'.heap → BindsTo s' fd ⟨.ref self :: us, ws⟩ (ps.zip [.ref self, uy]))
    (q : ∀ a t1 dx, H a = none → H t1 = none → H dx = none → t1 ≠ a → dx ≠ a → dx ≠ t1 → Q (.ref a) (madeH H a c t1 dx f m y)) : wpAny (model X.prog X.w) X.A (call (.ref c) us ws) (EP X pins τ Q) X.xe s := by
  obtain ⟨nm, qn, N, bs', bm, sn, sub, ab, col, dd, k0, k1, k2, k3, k5, hC, hbm⟩ := Z.T.cls
  obtain ⟨hp, g, dr, tk, os⟩ := s
  have hsz : hp.objs.size ≤ hp.objs.size + 1 := Nat.le_succ _
  have hn : H (hp.objs.size + 1) = none := I.hok.fresh hsz
  have kk : ∀ b o, hp.get? b = some o → ((hp.push (PySem.W.kdv_tup us)).push (PySem.HandSPX.excO c hp.objs.size)).get? b = some o := fun b o z => Heap.get?_push_of_some _ (Heap.get?_push_of_some _ z)
  have hget : ((hp.push (PySem.W.kdv_tup us)).push (PySem.HandSPX.excO c hp.objs.size)).get? (hp.objs.size + 1) = some (PySem.HandSPX.excO c hp.objs.size) := by heap_get
  have I2 : Inv X pins τ (upd H (hp.objs.size + 1) (exo (hp.objs.size + 1) c none)) ⟨(hp.push (PySem.W.kdv_tup us)).push (PySem.HandSPX.excO c hp.objs.size), g, dr, tk, os⟩ :=
    I.laid (t' := tk) (a := hp.objs.size + 1) (o := exo (hp.objs.size + 1) c none) (h' := (hp.push (PySem.W.kdv_tup us)).push (PySem.HandSPX.excO c hp.objs.size)) kk hsz (exo_ok hget)
  have r2 : Vals [V.ref (hp.objs.size + 1), y] [Value.ref (hp.objs.size + 1), uy] := .cons rfl (.cons ry .nil)
  have sp : spE c f m [V.ref (hp.objs.size + 1), y] (upd H (hp.objs.size + 1) (exo (hp.objs.size + 1) c none)) (fun v H2 => v = .non ∧ Q (.ref (hp.objs.size + 1)) H2) E0 := by
    refine ⟨_, y, rfl, upd_same, fun t1 dx n1 ne1 nd ned ndt => ⟨rfl, ?_⟩⟩
    rw [upd_ne ne1] at n1
    rw [upd_ne ned] at nd
    have eH : madeH (upd H (hp.objs.size + 1) (exo (hp.objs.size + 1) c none)) (hp.objs.size + 1) c t1 dx f m y = madeH H (hp.objs.size + 1) c t1 dx f m y := by
      unfold madeH
      funext b
      by_cases ha : b = hp.objs.size + 1
      · rw [ha, upd_same, upd_same]
      · rw [upd_ne ha, upd_ne ha]
        by_cases hd : b = dx
        · rw [hd, upd_same, upd_same]
        · rw [upd_ne hd, upd_ne hd]
          by_cases ht : b = t1
          · rw [ht, upd_same, upd_same]
          · rw [upd_ne ht, upd_ne ht, upd_ne ha]
    rw [eH]
    exact q _ t1 dx hn n1 nd ne1 ned ndt
  have hus : us.length ≤ sizeLine := by rw [sizeLine_eq]; omega
  refine wpAny_call (kw_call Z.T.bk.bf (fun n => refsT_has n bm hbm) (I.kIn _ _ hC) (PySem.W.looks_findIn I.kIn Z.iC) (fun self => PySem.W.bind_fn I.kIn self Z.tI) hus
    (codeAny_mono (Z.fn.run _ X.stack _ _ ⟨Value.ref (hp.objs.size + 1) :: us, ws⟩ [Value.ref (hp.objs.size + 1), uy] _ _ E0 ((hr.make c us ws).mono (by decide)) (I2.env0.make c us ws) (hb _ _ I2.kIn) r2 sp) fun r' s' hq' => ?_))
  cases r' with
  | error er => exact (show False from hq').elim
  | ok fl =>
    cases fl with
    | ret u =>
      obtain ⟨v, H', I3, rv, ev, q3⟩ := I2.after hq'
      subst ev
      exact ⟨rv, ⟨V.ref (hp.objs.size + 1), H', I3, rfl, q3⟩⟩
    | next => exact False.elim hq'
    | brk => exact False.elim hq'
    | cont => exact False.elim hq'
end
section
variable {X : Cx} {C : Cn} {fI : Addr} {f msg : Str} {B newId initId : String} {tl : List Value} {fd : FuncData} {ps : List Str} {e : Expr} {x : Str} {p pos kpos : Pos} {k n : Nat} {m : SS → O D} {H : Hp}
theorem err_new {y : V} {d : D} {a t1 dx : Addr} (hcf : C.cf k = f) (hcm : C.cm k = msg) (na : H a = none) (nt : H t1 = none) (nd : H dx = none) (h1 : t1 ≠ a) (h2 : dx ≠ a) (h3 : dx ≠ t1) (ry : Rp C H d y) :
    Same H (madeH H a (C.ca k) t1 dx f msg y) ∧ Rp C (madeH H a (C.ca k) t1 dx f msg y) (.err k d) (.ref a) := by
  have sm : Same H (madeH H a (C.ca k) t1 dx f msg y) := fun b u e => by
    unfold madeH
    rw [upd_ne (ne_of_none e na), upd_ne (ne_of_none e nd), upd_ne (ne_of_none e nt)]; exact e
  refine ⟨sm, ?_⟩
  simp only [Rp]
  refine ⟨a, dx, t1, y, [(f, y)], rfl, upd_same, ?_, ?_, ?_, ry.fx (.of_same sm)⟩
  · unfold madeH; rw [upd_ne h2, upd_same]
  · unfold madeH; rw [upd_ne h1, upd_ne (Ne.symm h3), upd_same, hcm]
  · rw [hcf]; simp [List.lookup]
def EN (C : Cn) (k : Nat) (τ : L2.St) (Q : VK) : List V → Hp → Prop := fun vs H1 => ∃ y d, vs = [y] ∧ Rp C H1 d y ∧ ∃ G σ, SR C G H1 σ τ ∧ ∀ v H', Rp C H' (.err k d) v → SR C G H' σ τ → Fx C.T H1 H' → Q v H'
def sErr (k : Nat) (m : SS → O D) : SS → O D := fun σ => (m σ).bind fun d σ1 => .ok (.err k d) σ1
/-- C(e) -/
theorem me_err (Z : ClsO X.prog X.w X.K X.mg X.base (C.ca k) fI f msg B newId initId tl fd ps) (hr : TRoom n X.A) (hcf : C.cf k = f) (hcm : C.cm k = msg) (hg : Gl X x) (hm : X.mg x = some (.ref (C.ca k))) (hb : Binds X.K fd ps []) (hps : ps.length = 2) (ha : ME X C e m) (hdb : (x == ("__debug__" : Str)) = false := by decide)
    (he : starEach [e] X.env = (false, eval e X.env) :: starEach [] X.env := by rfl) (hpl : (backTo pos (starEach [] X.env)).any (·.1) = false := by rfl) : ME X C (.Call (.Name x p) [e] [] pos) (sErr k m) := by
  refine ⟨fun E W tk => ⟨fun pins s τ H Q I h => ?_⟩⟩
  refine wpAny_Call_Name_kw (ld_glob I hg hm ?_ hdb)
  have go := (pa_cons (ha.pe E W tk) pa_nil he).run pos pins s τ H (EN C k τ Q) I ((tG_bind (R := fun _ => Rp C) h).mono fun y H1 ⟨d, r1, f1, G, σ, sr, p⟩ => ⟨y, d, rfl, r1, G, σ, sr, p⟩)
  refine PySem.W.callWith_K (h₀ := X.base) I.ok.mod.kin Z.T.kC (thn go fun us s1 ⟨vs, H1, I1, r1, y, d, ev, ry, G, σ, sr, q⟩ => ⟨I1.kIn, ?_⟩) he hpl
  subst ev
  obtain ⟨u, rfl, ru⟩ := vals1 r1
  refine run_err (X := X.wish E) Z (hr.room.mono (by decide)) I1 ru (by simp) (fun s' self KI => hb s' [.ref self, u] KI (by rw [hps]; rfl)) fun a t1 dx na nt nd h1 h2 h3 => ?_
  obtain ⟨sm, rx⟩ := err_new (C := C) hcf hcm na nt nd h1 h2 h3 ry
  exact q _ _ rx (sr.same sm) (.of_same sm)
/-- C(f = e) -/
theorem me_errK {ks : List Str} {nm : Option Str} (Z : ClsO X.prog X.w X.K X.mg X.base (C.ca k) fI f msg B newId initId tl fd ps) (hr : TRoom n X.A) (hcf : C.cf k = f) (hcm : C.cm k = msg) (hg : Gl X x) (hm : X.mg x = some (.ref (C.ca k))) (hb : ∀ (s : Shared) (self u : Value), X.K.In s.heap → BindsTo s fd ⟨[self], ks.zip [u]⟩ (ps.zip [self, u])) (ha : ME X C e m)
    (hall : (backToKw pos (keywordEach [⟨nm, e, kpos⟩] X.env)).all (·.1.isSome) = true := by rfl) (hks : (backToKw pos (keywordEach [⟨nm, e, kpos⟩] X.env)).filterMap (·.1) = ks := by rfl) (hdb : (x == ("__debug__" : Str)) = false := by decide)
    (hpl : ((backTo pos (starEach [] X.env)).any (·.1) || (backToKw pos (keywordEach [⟨nm, e, kpos⟩] X.env)).any (·.1.isNone)) = false := by rfl) : ME X C (.Call (.Name x p) [] [⟨nm, e, kpos⟩] pos) (sErr k m) := by
  refine ⟨fun E W tk => ⟨fun pins s τ H Q I h => ?_⟩⟩
  refine wpAny_Call_Name_kw (ld_glob I hg hm ?_ hdb)
  refine PySem.W.callWith_KW0 (h₀ := X.base) I.ok.mod.kin Z.T.kC hall ?_ hpl
  have go := (pk_cons (nm := nm) (kpos := kpos) (ha.pe E W tk) pk_nil).run pos pins s τ H (EN C k τ Q) I ((tG_bind (R := fun _ => Rp C) h).mono fun y H1 ⟨d, r1, f1, G, σ, sr, p⟩ => ⟨y, d, rfl, r1, G, σ, sr, p⟩)
  refine thn go fun us s1 ⟨vs, H1, I1, r1, y, d, ev, ry, G, σ, sr, q⟩ => ⟨I1.kIn, ?_⟩
  subst ev
  obtain ⟨u, rfl, ru⟩ := vals1 r1
  have hks' : (backToKw pos (keywordEach [⟨nm, e, kpos⟩] (X.wish E).env)).filterMap (·.1) = ks := hks
  rw [hks']
  refine run_err (X := X.wish E) (us := []) Z (hr.room.mono (by decide)) I1 ru (by simp) (fun s' self KI => hb s' (.ref self) u KI) fun a t1 dx na nt nd h1 h2 h3 => ?_
  obtain ⟨sm, rx⟩ := err_new (C := C) hcf hcm na nt nd h1 h2 h3 ry
  exact q _ _ rx (sr.same sm) (.of_same sm)
/-- C() -/
theorem me_err0 {uy : Value} {y : V} {d : D} (Z : ClsO X.prog X.w X.K X.mg X.base (C.ca k) fI f msg B newId initId tl fd ps) (hr : TRoom n X.A) (hcf : C.cf k = f) (hcm : C.cm k = msg) (hg : Gl X x) (hm : X.mg x = some (.ref (C.ca k))) (hb : Binds X.K fd ps [uy]) (hps : ps.length = 2) (ru : RelV y uy) (ry : ∀ H, Rp C H d y) (hdb : (x == ("__debug__" : Str)) = false := by decide) :
    ME X C (.Call (.Name x p) [] [] pos) (sErr k (sC d)) := by
  refine ⟨fun E W tk => ⟨fun pins s τ H Q I h => ?_⟩⟩
  refine wpAny_Call_Name_kw (ld_glob I hg hm ?_ hdb)
  obtain ⟨G, σ, sr, q⟩ := h
  refine PySem.W.callWith_K0 I.kIn Z.T.kC (run_err (X := X.wish E) (us := []) Z (hr.room.mono (by decide)) I ru (by simp) (fun s' self KI => hb s' [.ref self] KI (by rw [hps]; rfl)) fun a t1 dx na nt nd h1 h2 h3 => ?_)
  obtain ⟨sm, rx⟩ := err_new (C := C) hcf hcm na nt nd h1 h2 h3 (ry H)
  exact q _ _ rx (sr.same sm) (.of_same sm)
/-- e.f -/
def sFldE (fs : Nat → Bool) (m : SS → O Hd) : SS → O D := fun σ => (m σ).bind fun h σ1 => match res σ1 h with
  | some (.err c d) => if fs c then .ok d σ1 else .bad
  | _ => .bad
theorem me_fldE {m : SS → O Hd} {n : Str} {fs : Nat → Bool} (hK : X.K = C.K) (hf : ∀ c, fs c = true → C.cf c = n ∧ XfC C.K (C.ca c) ∧ PySem.W.findIn C.K (.ref (C.ca c)) n = some none) (h : MH X C e m) (hb : attributeBase e n X.env (eval e X.env) = eval e X.env := by rfl) : ME X C (.Attribute e n pos) (sFldE fs m) := by
  refine ⟨fun E W tk => ⟨fun pins s τ H Q I q => ?_⟩⟩
  refine attr_of (env := X.env) hb ?_
  refine thn ((h.pe E W tk).run pins s τ H _ I (tG_bind (R := RH C) q)) fun u s1 ⟨v, H1, I1, ru, h1, r1, f1, G, σ, sr, p⟩ => ?_
  dsimp only at p
  split at p
  · rename_i c d ed
    split at p
    · rename_i hc
      obtain ⟨ecf, xf, hno⟩ := hf c hc
      have rb : Rp C H1 (.err c d) v := sr.res r1 ed
      simp only [Rp] at rb
      obtain ⟨a, dd, t1, x, fs', rfl, ha, hdd, _, hl, rx⟩ := rb
      obtain rfl : u = Value.ref a := ru
      have e1 := exoA_at I1.hok ha
      obtain ⟨mA, hns, hr⟩ := exd_at I1.hok hdd
      obtain ⟨od, ho, hlk⟩ := lookIn_ns hns
      rw [ecf] at hl
      obtain ⟨u2, hu, ru2⟩ := RelO.some_of (v := x) (o := mA n) (by rw [← hl]; exact hr n)
      have J : PySem.W.InstAt s1.heap a _ (C.ca c) (some od) := ⟨e1, rfl, rfl, ho⟩
      exact HandSPX.exc_get (K := C.K) (hK ▸ I1.kIn) J xf.ga xf.gg xf.exC (PySem.W.findObj_own xf.hdC hno rfl (by rw [hlk, hu])) (handed_of ru2) ⟨x, H1, I1.tok _, ru2, p x H1 rx sr (.refl _)⟩
    · exact p.elim
  · exact p.elim
/-! ### str(x) -/
def fStr (okc : Nat → Bool) (cm : Nat → Str) : D → Option D
  | .str x => some (.str x)
  | .int i => if i.natAbs.log2 < 1920 then some (.str (toString i)) else none
  | .err c _ => if okc c then some (.str (cm c)) else none
  | _ => none
def sUn (f : D → Option D) (m : SS → O Hd) : SS → O D := fun σ => (m σ).bind fun h σ1 => match res σ1 h with
  | some d => ofOpt (f d) σ1
  | none => .bad
theorem un_core {f : D → Option D} {m : SS → O Hd} {W : WX} {τ : L2.St} {H : Hp} {Q : VK} (h : tE C W (sUn f m) τ H Q) : tHd C W m τ H fun x H1 => ∃ a d, Rb C H1 a x ∧ f a = some d ∧ ∀ r H', Same H1 H' → Rp C H' d r → Q r H' := by
  refine (tG_bind (R := RH C) h).mono fun x H1 ⟨h1, r1, f1, G, σ, sr, p⟩ => ?_
  dsimp only at p
  split at p
  · rename_i a e
    cases e2 : f a with
    | none => rw [e2] at p; exact p.elim
    | some d => rw [e2] at p; exact ⟨a, d, sr.res r1 e, e2, fun r H' s q => p r H' q (sr.same s) (.of_same s)⟩
  · exact p.elim
/-- a built-in function's one argument -/
def rU (C : Cn) (f : D → Option D) : List V → Hp → VK → Prop := fun xs H Q => ∃ x a d, xs = [x] ∧ Rb C H a x ∧ f a = some d ∧ ∀ r H', Same H H' → Rp C H' d r → Q r H'
theorem me_callB {f : D → Option D} {m : SS → O Hd} {id : String} (hc : ∀ E, CallR (X.wish E) (.builtin id) (rU C f)) (hg : Gl X x) (hm : X.mg x = none) (hv : bootBuiltins x = some (.builtin id)) (ha : MH X C e m) (hn : x ≠ "__name__" := by decide) (hdb : (x == ("__debug__" : Str)) = false := by decide)
    (he : starEach [e] X.env = (false, eval e X.env) :: starEach [] X.env := by rfl) (hpl : (backTo pos (starEach [] X.env)).any (·.1) = false := by rfl) : ME X C (.Call (.Name x p) [e] [] pos) (sUn f m) :=
  ⟨fun E W tk => (pe_callB (X := X.wish E) (hc E) hg hm hv (pa_cons (ha.pe E W tk) pa_nil he) hn hdb he hpl).imp fun τ H Q q => (un_core q).mono fun y H1 ⟨a, d, z⟩ => ⟨y, a, d, rfl, z⟩⟩
theorem me_callT {f : D → Option D} {m : SS → O Hd} {id : String} (hc : ∀ E, CallR (X.wish E) (.type id) (rU C f)) (hg : Gl X x) (hm : X.mg x = none) (hv : bootBuiltins x = some (.type id)) (ha : MH X C e m) (hn : x ≠ "__name__" := by decide) (hdb : (x == ("__debug__" : Str)) = false := by decide)
    (he : starEach [e] X.env = (false, eval e X.env) :: starEach [] X.env := by rfl) (hpl : (backTo pos (starEach [] X.env)).any (·.1) = false := by rfl) : ME X C (.Call (.Name x p) [e] [] pos) (sUn f m) :=
  ⟨fun E W tk => (pe_callTy (X := X.wish E) (hc E) hg hm hv (pa_cons (ha.pe E W tk) pa_nil he) hn hdb he hpl).imp fun τ H Q q => (un_core q).mono fun y H1 ⟨a, d, z⟩ => ⟨y, a, d, rfl, z⟩⟩
theorem cr_str {okc : Nat → Bool} (hK : X.K = C.K) (hr : TRoom n X.A) (hq : ∀ c, okc c = true → PySem.W.findIn C.K (.ref (C.ca c)) "__str__" = some (some (.builtin "BaseException.__str__")) ∧ PySem.W.subIn C.K (.ref (C.ca c)) (.type "BaseException") = some true) :
    CallR X (.type "str") (rU C (fStr okc C.cm)) := by
  intro pins s σ H xs us Q I r h
  obtain ⟨x, a, d, rfl, ra, e, q⟩ := h
  have hu := hr.u64
  unfold fStr at e
  split at e
  · cases e
    have := ra.str; subst this
    obtain ⟨u, rfl, t, rfl⟩ := vals1 r
    exact PySem.P.str_of_str ⟨.str _, H, I, ⟨t, rfl⟩, q _ H (.refl H) .s⟩
  · split at e
    · rename_i hi
      cases e
      have := ra.int; subst this
      exact call_str_int pins s σ H _ us Q I r ⟨_, rfl, hi, q _ H (.refl H) .s⟩
    · cases e
  · rename_i c d'
    split at e
    · rename_i hc
      cases e
      obtain ⟨h1, h2⟩ := hq c hc
      have rb : Rp C H (.err c d') x := ra
      simp only [Rp] at rb
      obtain ⟨a, dd, t1, y, fs', rfl, ha, hdd, ht, hl, rx⟩ := rb
      obtain ⟨u, rfl, ru⟩ := vals1 r
      obtain rfl : u = Value.ref a := ru
      have e1 := exoA_at I.hok ha
      obtain ⟨_, its, rv, o, q1, q2, k, q3⟩ := (show ObjOk X.prog X.w H s.heap t1 (.tup [.str (C.cm c)]) from I.hok t1 _ ht)
      obtain ⟨u1, rfl, tk, rfl⟩ := vals1 rv
      refine PySem.P.str_of_C_one (K := C.K) (C := C.ca c) (e := a) (t0 := t1) (m := C.cm c) (tk := tk) (by omega) ⟨hK ▸ I.kIn, _, _, e1, rfl, rfl, rfl⟩ ⟨o, k, q1, q2, q3⟩ h1 h2 ⟨.str (C.cm c), H, I, ⟨tk, rfl⟩, q _ H (.refl H) .s⟩
    · cases e
  · cases e
/-! ### sum(xs), len(x), int(x) -/
def intsOf : List D → Option (List Int)
  | [] => some []
  | .int i :: r => (intsOf r).map (i :: ·)
  | _ => none
theorem intsOf_rp : ∀ {ds : List D} {vs : List V} {ns : List Int}, RpL C H ds vs → intsOf ds = some ns → vs = ns.map V.int
  | [], vs, ns, h, e => by simp only [intsOf] at e; cases e; exact h.nilR
  | d :: ds, vs, ns, h, e => by
    simp only [RpL] at h
    obtain ⟨v, r, rfl, h1, h2⟩ := h
    cases d with
    | int i =>
      simp only [intsOf] at e
      cases q : intsOf ds with
      | none => rw [q] at e; cases e
      | some ms =>
        rw [q] at e; cases e
        rw [intsOf_rp h2 q, h1.rb.int]; rfl
    | _ => simp only [intsOf] at e; cases e
def fSum : D → Option D
  | .lst ds => (intsOf ds).map fun ns => .int ns.sum
  | _ => none
theorem cr_sumD (hK : X.K = C.K) (hc : X.calm = true) : CallR X (.builtin "sum") (rU C fSum) := by
  intro pins s σ H xs us Q I r h
  obtain ⟨x, a, d, rfl, ra, e, q⟩ := h
  unfold fSum at e
  split at e
  · rename_i ds
    cases q2 : intsOf ds with
    | none => rw [q2] at e; cases e
    | some ns =>
      rw [q2] at e; cases e
      obtain ⟨p, vs, rfl, sl, rl⟩ := ra.lst
      have := intsOf_rp rl q2; subst this
      exact cr_sum hc pins s σ H _ us Q I r ⟨p, ns, rfl, hK ▸ sl, q _ H (.refl H) .i⟩
  · cases e
def fLen : D → Option D
  | .lst ds => some (.int ds.length)
  | .tup ds => some (.int ds.length)
  | .str x => if x.length ≤ LIM then some (.int x.length) else none
  | _ => none
theorem cr_lenD (hK : X.K = C.K) : CallR X (.builtin "len") (rU C fLen) := by
  intro pins s σ H xs us Q I r h
  obtain ⟨x, a, d, rfl, ra, e, q⟩ := h
  unfold fLen at e
  split at e
  · cases e
    obtain ⟨p, vs, rfl, sl, rl⟩ := ra.lst
    refine call_len_seq pins s σ H _ us Q I r ⟨p, vs, rfl, .inl (hK ▸ sl), ?_⟩
    rw [rl.length]; exact q _ H (.refl H) .i
  · cases e
    obtain ⟨p, vs, rfl, sl, rl⟩ := ra.tup
    refine call_len_seq pins s σ H _ us Q I r ⟨p, vs, rfl, .inr (hK ▸ sl), ?_⟩
    rw [rl.length]; exact q _ H (.refl H) .i
  · split at e
    · rename_i hl
      cases e
      have := ra.str; subst this
      exact call_len_str pins s σ H _ us Q I r ⟨_, rfl, by rw [LIM_eq]; exact hl, q _ H (.refl H) .i⟩
    · cases e
  · cases e
def fInt : D → Option D
  | .int i => some (.int i)
  | .bl b => some (.int (if b then 1 else 0))
  | _ => none
theorem cr_intD : CallR X (.type "int") (rU C fInt) := by
  intro pins s σ H xs us Q I r h
  obtain ⟨x, a, d, rfl, ra, e, q⟩ := h
  unfold fInt at e
  split at e
  · cases e
    have := ra.int; subst this
    exact call_int1 pins s σ H _ us Q I r (.inl ⟨_, rfl, q _ H (.refl H) .i⟩)
  · cases e
    have := ra.bl; subst this
    exact call_int1 pins s σ H _ us Q I r (.inr ⟨_, rfl, q _ H (.refl H) .i⟩)
  · cases e
end
end TL

set_option Elab.async false
set_option linter.all false
set_option maxRecDepth 100000
set_option maxHeartbeats 4000000
/-! TL17: [..] * n; the law's own call. -/
namespace TL
open PySem PySem.Spec PyProof.Rows L2
section
variable {X : Cx} {C : Cn} {a b : Expr} {ma : SS → O (List D)} {mb : SS → O D} {pos : Pos}
/-- a new list -/
def sLs (m : SS → O (List D)) : SS → O (List D) := fun σ => (m σ).bind fun ds σ' => if ds.length ≤ LIM then .ok ds σ' else .bad
theorem mf_ls {es : List Expr} {m : SS → O (List D)} (hm : MA X C es m) : MF X C (.List es pos) (sLs m) := mf_lst hm
/-- [..] * n -/
def sRep (ma : SS → O (List D)) (mb : SS → O D) : SS → O (List D) := fun σ => (ma σ).bind fun ds σ1 => (mb σ1).bind fun d σ2 => match d with
  | .int k => if -1000 ≤ k ∧ k ≤ 4000 ∧ ds.length ≤ 4000 then .ok (List.replicate k.toNat ds).flatten σ2 else .bad
  | _ => .bad
theorem mf_rep (ha : MF X C a ma) (hb : ME X C b mb) : MF X C (.BinOp a .Mult b pos) (sRep ma mb) := by
  refine ⟨fun E W tk => (pe_op (op_rep (X := X.wish E)) (ha.pe E W tk) (hb.pe E W tk)).imp fun τ H Q ⟨G, σ, sr, p⟩ => ⟨G, σ, sr, ?_⟩⟩
  have p : PostF C W τ G H ((ma σ).bind fun ds σ1 => (mb σ1).bind fun d σ2 => match d with
    | .int k => if -1000 ≤ k ∧ k ≤ 4000 ∧ ds.length ≤ 4000 then .ok (List.replicate k.toNat ds).flatten σ2 else .bad
    | _ => .bad) Q := p
  cases e : ma σ with
  | bad => rw [e] at p; exact p
  | ex x σ' => rw [e] at p; exact p
  | ok ds σ1 =>
    rw [e] at p
    have p : PostF C W τ G H ((mb σ1).bind fun d σ2 => match d with
      | .int k => if -1000 ≤ k ∧ k ≤ 4000 ∧ ds.length ≤ 4000 then .ok (List.replicate k.toNat ds).flatten σ2 else .bad
      | _ => .bad) Q := p
    intro l vs H1 h1 h2 h3 h4 f1
    refine ⟨⟨upd G.hp l (.lst vs), G.at_⟩, σ1, h4, ?_⟩
    cases e2 : mb σ1 with
    | bad => rw [e2] at p; exact p
    | ex x σ' => rw [e2] at p; exact fun cls d H' q1 q2 q3 => p cls d H' q1 (q2.freeG h3) (f1.trans q3)
    | ok d σ2 =>
      rw [e2] at p
      intro y H2 ry s2 f2
      cases d with
      | int k =>
        have p : PostF C W τ G H (if -1000 ≤ k ∧ k ≤ 4000 ∧ ds.length ≤ 4000 then .ok (List.replicate k.toNat ds).flatten σ2 else .bad) Q := p
        split at p
        · rename_i hc
          have := ry.rb.int; subst this
          have hl : H2 l = some (.lst vs) := s2.gr l _ upd_same
          have r2 := h2.fx f2
          have hvs : vs.length = ds.length := r2.length
          have hrep : ∀ n, RpL C H2 (List.replicate n ds).flatten (List.replicate n vs).flatten := fun n => by
            induction n with
            | zero => exact .nil
            | succ n ih => simp only [List.replicate_succ, List.flatten_cons]; exact r2.append ih
          refine ⟨l, k, vs, rfl, rfl, hl, by omega, by omega, ?_, fun q hq => ?_⟩
          · rw [LIM_eq, hvs]
            have := Nat.mul_le_mul hc.2.2 (show k.toNat ≤ 4000 by omega)
            unfold LIM
            omega
          · have sm : Same H2 (upd H2 q (.lst (List.replicate k.toNat vs).flatten)) := same_new hq
            obtain ⟨n, s3⟩ := s2.new (o := .lst (List.replicate k.toNat vs).flatten) hq
            have gq : G.hp q = none := by
              cases z : G.hp q with
              | none => rfl
              | some u =>
                have ne : q ≠ l := by rintro rfl; rw [h3] at z; cases z
                have := s2.gr q u (by show upd G.hp l _ q = _; rw [upd_ne ne]; exact z)
                rw [hq] at this; cases this
            refine p q _ _ upd_same ((hrep _).fx (.of_same sm)) gq ?_ ((f1.trans f2).trans (.of_same sm))
            refine s3.weakG rfl fun b o z => ?_
            have z : upd G.hp q _ b = some o := z
            show upd (upd G.hp l _) q _ b = some o
            by_cases hb : b = q
            · subst hb; rw [upd_same] at z ⊢; exact z
            · rw [upd_ne hb] at z ⊢
              rw [upd_ne (show b ≠ l by rintro rfl; rw [h3] at z; cases z)]
              exact z
        · exact p.elim
      | _ => exact p.elim
end

/-! ### the law's own call -/
theorem caller_room {k : Nat} (hd : callerA.depth + k + 20 < recursionLimit) (hu : callerA.units + 16 * k + 400 < cLine) : TRoom k callerA := ⟨rfl, rfl, hd, hu⟩
section
variable {P : Program} {w : World} {K : PySem.W.Frag} {mg mb : Str → Option Value} {C : Cn} {k : Nat} {fa a : Addr} {fd : FuncData} {x : Str} {F : FT} {s1 : Shared} {vs : List Value} {ns : List Int}
/-- what a run from the known heap H gives of the whole heap -/
theorem law_run {H : Hp} (hCK : C.K = K) (hCT : C.T = []) (KX : K.In s1.heap) (g1 : s1.heap.Ns mainGlobals mg) (g2 : s1.heap.Ns builtinsNs mb) (g3 : ∀ x : Str, x ≠ "__name__" → mb x = bootBuiltins x) (lim : s1.heap.NoLimit) (gen : s1.gens = #[])
    (at_ : s1.heap.get? a = some { cls := .type "list", data := .seq vs.toArray }) (room : TRoom k callerA) (fn : ∀ base : Heap, K.In base → base.Ns mainGlobals mg → FnT P w K mg base C k fa fd [x] F) (bind : ∀ (s : Shared) (u : Value), BindsTo s fd ⟨[u], []⟩ [(x, u)])
    (hF : ∃ outs, F [.val (.lst (ns.map D.int))] = .ok (.bl true) outs) (hS : Rp C H (.lst (ns.map D.int)) (.ref a)) (hO : ∀ b u, H b = some u → ∃ o xs, u = .frz o (.lst xs)) (hA : ∀ b, H b ≠ none → b = a) (hN : H a ≠ none → K.lookup a = none) (hok : HOk P w H s1.heap) :
    codeAny (model P w) callerA (.call (.ref fa) ⟨[.ref a], []⟩) (fun r s' => r = .ok (.ret (.bool true)) ∧ OldK s1.heap s'.heap ∧ s'.os = s1.os ∧ AllBare s'.gens) s1 := by
  have low : ∀ {b : Addr} {o : Obj}, s1.heap.get? b = some o → H b = none → (hidT s1.heap H).get? b = some o := fun e n => hidT_get e n
  have free : ∀ {b : Addr}, b ≠ a → H b = none := fun {b} nb => by
    cases q : H b with
    | none => rfl
    | some u => exact absurd (hA b (by rw [q]; simp)) nb
  have nsK : ∀ {b : Addr} {m : Str → Option Value}, s1.heap.Ns b m → (hidT s1.heap H).Ns b m := fun {b m} ⟨o, es, ep, e, d, r⟩ => ⟨o, es, ep, low e (free fun z => by
    subst z; rw [at_] at e; cases e
    have d : Data.seq vs.toArray _ = Data.dict es ep := d
    cases d), d, r⟩
  have inK : K.In (hidT s1.heap H) := fun b o e => low (KX b o e) (by
    by_cases hb : b = a
    · subst hb
      cases q : H b with
      | none => rfl
      | some u => rw [hN (by rw [q]; simp)] at e; cases e
    · exact free hb)
  have md : Mod K mg (hidT s1.heap H) := ⟨inK, nsK g1, ⟨mb, nsK g2, g3⟩, let ⟨mc, h1, h2⟩ := lim; ⟨mc, nsK h1, h2⟩⟩
  have e0 : Env0 P w K mg (hidT s1.heap H) callerA [] s1 H := ⟨rfl, md, fun b o e => of_hidT e, Nat.le_of_eq (hidT_size _ _), trivial, fun b hb => absurd (show b ∈ ([] : List Addr) from hb) (by simp), hok, .of_eq gen⟩
  obtain ⟨outs, eF⟩ := hF
  have args : RArgs C H [.val (.lst (ns.map D.int))] [.ref a] (fun _ => 0) := by
    refine ⟨by rw [hCT]; exact fun p hp => absurd hp (by simp), rfl, fun j d e => ?_, fun j m e => ?_, fun j i m e => ?_, fun i j ⟨m, e⟩ _ _ => ?_⟩
    · cases j with
      | zero => cases e; exact ⟨_, rfl, hS⟩
      | succ j => cases e
    · cases j with
      | zero => cases e
      | succ j => cases e
    · cases j with
      | zero => cases e
      | succ j => cases e
    · cases i with
      | zero => cases e
      | succ i => cases e
  refine codeAny_mono ((fn _ inK (nsK g1)).run callerA [] s1 H ⟨[.ref a], []⟩ [.ref a] [.ref a] (fun v _ => v = .bl true) (fun _ _ _ => False) room e0 (bind s1 (.ref a)) (.cons rfl .nil) ⟨_, _, args, by rw [eF]; exact fun v H' rv _ => rv.rb.bl⟩) fun r s' h => ?_
  cases r with
  | error e => obtain ⟨_, _, _, _, _, _, _, _, _, _, _, _, z⟩ := h; exact z.elim
  | ok fl =>
    cases fl with
    | next => exact False.elim h
    | brk => exact False.elim h
    | cont => exact False.elim h
    | ret u =>
      obtain ⟨v, H', os, bare, un, hok', rv, q⟩ := h
      subst q
      obtain rfl : u = Value.bool true := rv
      refine ⟨rfl, OldK.of_keep fun b o e => ?_, os, bare⟩
      cases q : H b with
      | none => exact un.keep b o e q (fun z => absurd (show b ∈ ([] : List Addr) from z) (by simp)) (by simp)
      | some u =>
        obtain ⟨ob, xs, rfl⟩ := hO b u q
        obtain ⟨e1, _⟩ := hok b _ q
        obtain ⟨e2, _⟩ := hok' b _ (un.frzs b ob _ q)
        rw [e] at e1; cases e1
        exact e2
theorem ints_rp {H : Hp} : ∀ ns : List Int, RpL C H (ns.map D.int) (ns.map V.int)
  | [] => .nil
  | n :: ns => .cons .i (ints_rp ns)
theorem law_callT (hCK : C.K = K) (hCT : C.T = []) (KX : K.In s1.heap) (g1 : s1.heap.Ns mainGlobals mg) (g2 : s1.heap.Ns builtinsNs mb) (g3 : ∀ x : Str, x ≠ "__name__" → mb x = bootBuiltins x) (lim : s1.heap.NoLimit) (gen : s1.gens = #[])
    (at_ : s1.heap.get? a = some { cls := .type "list", data := .seq vs.toArray }) (hi : IntsAre vs ns) (hl : ns.length ≤ sizeLine) (room : TRoom k callerA) (fn : ∀ base : Heap, K.In base → base.Ns mainGlobals mg → FnT P w K mg base C k fa fd [x] F) (bind : ∀ (s : Shared) (u : Value), BindsTo s fd ⟨[u], []⟩ [(x, u)])
    (hF : ∃ outs, F [.val (.lst (ns.map D.int))] = .ok (.bl true) outs) :
    codeAny (model P w) callerA (.call (.ref fa) ⟨[.ref a], []⟩) (fun r s' => r = .ok (.ret (.bool true)) ∧ OldK s1.heap s'.heap ∧ s'.os = s1.os ∧ AllBare s'.gens) s1 := by
  have rv := vals_ints hi
  cases hk : K.lookup a with
  | some o =>
    have e := KX a o hk
    rw [at_] at e; cases e
    refine law_run (H := fun _ => none) hCK hCT KX g1 g2 g3 lim gen at_ room fn bind hF ?_ (fun b u z => by cases z) (fun b z => absurd rfl z) (fun z => absurd rfl z) (fun b u z => by have z' : (none : Option HO) = some u := z; cases z')
    simp only [Rp]
    exact ⟨a, _, rfl, .inr ⟨_, vs.toArray, _, by rw [hCK]; exact hk, rfl, rfl, rfl, by rw [List.size_toArray, hi.length]; exact hl, by simpa using rv⟩, ints_rp ns⟩
  | none =>
    refine law_run (H := fun b => if b = a then some (.frz { cls := .type "list", data := .seq vs.toArray } (.lst (ns.map V.int))) else none) hCK hCT KX g1 g2 g3 lim gen at_ room fn bind hF ?_ (fun b u z => ?_) (fun b z => ?_) (fun _ => hk) (fun b u z => ?_)
    · simp only [Rp]
      exact ⟨a, _, rfl, .inl ⟨_, if_pos rfl⟩, ints_rp ns⟩
    · have z : (if b = a then some (HO.frz { cls := .type "list", data := .seq vs.toArray } (.lst (ns.map V.int))) else none) = some u := z
      split at z
      · cases z; exact ⟨_, _, rfl⟩
      · cases z
    · by_cases hb : b = a
      · exact hb
      · exact absurd (if_neg hb) z
    · have z : (if b = a then some (HO.frz { cls := .type "list", data := .seq vs.toArray } (.lst (ns.map V.int))) else none) = some u := z
      split at z
      · rename_i hb
        cases z
        subst hb
        exact ⟨at_, by rw [List.length_map]; exact hl, vs, _, rv, at_⟩
      · cases z
/-- the goal that the head leaves, from the law's def -/
theorem walk_T {l : PySem.W.OpenLaw} {n k : Nat} {q : Program} {loose : List Str} {XP : (Str → Option Value) → Heap → Prop} {YP : World → Heap → Prop} {d : DefRec} {K : Params → PySem.W.Frag} {F : FT} {x : Str}
    (hn : l.most = some n) (hn2 : n ≤ sizeLine) (hdf : d.params.defaults = []) (room : TRoom k callerA) (hY : ∀ (w : World) (h : Heap), YP w h → (K w.params).In h)
    (fn : ∀ (w : World) (mg : Str → Option Value) (fa : Addr) (h : Heap), (K w.params).In h → h.Ns mainGlobals mg → mg d.name = some (.ref fa) →
      ∃ (C : Cn) (fd : FuncData), C.K = K w.params ∧ C.T = [] ∧ (∀ (s : Shared) (u : Value), BindsTo s fd ⟨[u], []⟩ [(x, u)]) ∧ ∀ base : Heap, (K w.params).In base → base.Ns mainGlobals mg → FnT l.prog w (K w.params) mg base C k fa fd [x] F)
    (hF : ∀ ns : List Int, ns.length ≤ n → ∃ outs, F [.val (.lst (ns.map D.int))] = .ok (.bl true) outs) : PySem.W.WalkO q loose XP YP l.row.toRowW d [] (fun f vs => PySem.call f vs) := by
  refine Att.attach_call hn hdf fun w s₀ s₁ mg mb fa o pm cd doc a vs ns G Y ho hd hcd hmg hobj hints hlen hg => ?_
  have KX := hY w _ Y
  obtain ⟨C, fd, c1, c2, hb, hf⟩ := fn w mg fa _ KX G.T.g hmg
  exact law_callT c1 c2 KX G.T.g G.T.b G.T.builtins G.T.nolimit hg hobj hints (Nat.le_trans hlen hn2) room hf hb (hF ns hlen)
end
end TL

set_option Elab.async false
set_option linter.all false
set_option maxRecDepth 100000
set_option maxHeartbeats 4000000
/-! TL18: what the top has written of exception classes and defs, as facts in a row. -/
namespace TL
open PySem PySem.Spec PyProof.Rows L2
/-- the kinds of classes: 0 under the text's own class at S (a ValueError), 1 an OverflowError, 2 a LookupError, 3 a ValueError -/
def tlOf : Nat → List Value
  | 0 | 3 => [.type "ValueError", .type "Exception", .type "BaseException", .type "object"]
  | 1 => [.type "OverflowError", .type "ArithmeticError", .type "Exception", .type "BaseException", .type "object"]
  | _ => [.type "LookupError", .type "Exception", .type "BaseException", .type "object"]
def bmOf (S : Addr) : Nat → List Value
  | 0 => .ref S :: tlOf 0
  | k => tlOf k
def bOf : Nat → String
  | 0 | 3 => "ValueError" | 1 => "OverflowError" | _ => "LookupError"
def newOf : Nat → String
  | 0 | 3 => "ValueError.__new__" | 1 => "OverflowError.__new__" | _ => "LookupError.__new__"
def iniOf : Nat → String
  | 0 | 3 => "ValueError.__init__" | 1 => "OverflowError.__init__" | _ => "LookupError.__init__"
theorem bkOf : ∀ kd : Nat, kd < 4 → BaseK (bOf kd) (newOf kd) (iniOf kd) (tlOf kd)
  | 0, _ => bk_value
  | 1, _ => bk_overflow
  | 2, _ => bk_lookup
  | 3, _ => bk_value
theorem refsT_self {tl : List Value} (h : ∀ a r, tl ≠ .ref a :: r) : refsT tl tl = true := by
  unfold refsT
  split
  · rename_i a r; exact absurd rfl (h a r)
  · exact beq_self_eq_true _
theorem refsOf (S : Addr) : ∀ kd : Nat, kd < 4 → refsT (tlOf kd) (bmOf S kd) = true
  | 0, _ => by show refsT (tlOf 0) (tlOf 0) = true; decide +kernel
  | 1, _ => by show refsT (tlOf 1) (tlOf 1) = true; decide +kernel
  | 2, _ => by show refsT (tlOf 2) (tlOf 2) = true; decide +kernel
  | 3, _ => by show refsT (tlOf 3) (tlOf 3) = true; decide +kernel
/-- a class object -/
structure KObj (K : PySem.W.Frag) (S : Addr) (kd : Nat) (nm : Str) (c : Addr) (o : Obj) : Prop where
  lo : K.lookup c = some o
  ex : ∃ q N bs sn sub ab col dd k0 k1 k2 k3 k5, o = excClassObj nm q c N bs (bmOf S kd) true sn sub ab col dd k0 k1 k2 k3 k5 (newOf kd)
structure KCls (K : PySem.W.Frag) (S : Addr) (kd : Nat) (nm f : Str) (c : Addr) (o : Obj) : Prop extends KObj K S kd nm c o where
  sa : PySem.W.findIn K (.ref c) "__setattr__" = some (some (.builtin "object.__setattr__"))
  ga : PySem.W.findIn K (.ref c) "__getattribute__" = some (some (.builtin "BaseException.__getattribute__"))
  gg : PySem.W.findIn K (.ref c) "__getattr__" = some none
  gc : PySem.W.findIn K (.ref c) "__class__" = some (some (.builtin "object.__class__"))
  gs : PySem.W.findIn K (.ref c) "__str__" = some (some (.builtin "BaseException.__str__"))
  nf : PySem.W.findIn K (.ref c) f = some none
  tC : PySem.W.typeIn K (.ref c) = some (.type "type")
  kC : PySem.W.keepIn K (.ref c) = true
/-- its __init__ -/
structure KIni (K : PySem.W.Frag) (qual : Str) (st : Stmt) (c f1 : Addr) (o1 : Obj) (dV cd : Value) : Prop where
  a1 : PySem.W.findIn K (.ref c) "__init__" = some (some (.ref f1))
  t1 : PySem.W.typeIn K (.ref f1) = some (.type "function")
  l1 : K.lookup f1 = some o1
  e1 : ∃ oc od kV doc pm an ct osl, o1 = ⟨oc, od, .func (PySem.W.fnOf "__init__" qual (defArgs st) (defBody st) (defScope st) dV kV doc pm an cd ct), osl⟩
  c1 : PySem.W.codeIn K cd qual = true
  k1 : PySem.W.keepIn K (.ref f1) = true
section
variable {K : PySem.W.Frag} {S c d : Addr} {kd kd' : Nat} {nm nm' f : Str} {o o' : Obj}
theorem KObj.mro (z : KObj K S kd nm c o) : ∃ cd, PySem.W.clsIn K c = some cd ∧ cd.mro = .ref c :: bmOf S kd ∧ cd.hasDict = true := by
  obtain ⟨q, N, bs, sn, sub, ab, col, dd, k0, k1, k2, k3, k5, rfl⟩ := z.ex
  refine ⟨{ name := nm, bases := bs, mro := .ref c :: bmOf S kd, ns := N, qualname := q, hasDict := true, slotNames := sn, subclasses := sub, abstract := ab, collection := col, hasDel := false }, ?_, rfl, rfl⟩
  unfold PySem.W.clsIn; rw [z.lo] <;> rfl
theorem KObj.sub (z : KObj K S kd nm c o) (t : Value) : PySem.W.subIn K (.ref c) t = some ((Value.ref c :: bmOf S kd).contains t) := by
  obtain ⟨cd, e, m, _⟩ := z.mro
  show PySem.W.mroIn K c t = _
  unfold PySem.W.mroIn
  rw [e, Option.bind_some, m]; rfl
theorem KObj.ne (z : KObj K S kd nm c o) (z' : KObj K S kd' nm' d o') (h : nm ≠ nm') : c ≠ d := by
  rintro rfl
  obtain ⟨q, N, bs, sn, sub, ab, col, dd, k0, k1, k2, k3, k5, e⟩ := z.ex
  obtain ⟨q', N', bs', sn', sub', ab', col', dd', k0', k1', k2', k3', k5', e'⟩ := z'.ex
  have := z.lo.symm.trans z'.lo
  rw [e, e'] at this
  exact h (congrArg (fun x : Option Obj => match x with | some ⟨_, _, .cls cd, _⟩ => cd.name | _ => "") this)
theorem tl_noref (a : Addr) : ∀ kd, (tlOf kd).contains (.ref a) = false
  | 0 | 1 | 2 | 3 => by simp [tlOf]
  | n + 4 => by simp [tlOf]
theorem KCls.exC (z : KCls K S kd nm f c o) : PySem.W.subIn K (.ref c) (.type "BaseException") = some true := by
  rw [z.toKObj.sub]
  match kd with
  | 0 | 1 | 2 | 3 => simp [bmOf, tlOf]
  | n + 4 => simp [bmOf, tlOf]
theorem KCls.obj (z : KCls K S kd nm f c o) : PySem.W.mroIn K c (.type "object") = some true := by
  have := z.toKObj.sub (.type "object")
  have e : PySem.W.mroIn K c (.type "object") = _ := this
  rw [e]
  match kd with
  | 0 | 1 | 2 | 3 => simp [bmOf, tlOf]
  | n + 4 => simp [bmOf, tlOf]
theorem KCls.hd (z : KCls K S kd nm f c o) : PySem.W.hasDictIn K c = true := by
  obtain ⟨cd, e, _, h⟩ := z.toKObj.mro
  unfold PySem.W.hasDictIn
  rw [e]; simpa using h
theorem KCls.xf (z : KCls K S kd nm f c o) : XfC K c := ⟨z.ga, z.gg, z.exC, z.hd⟩
theorem KCls.ek (z : KCls K S kd nm f c o) (g6 : PySem.W.specialIn K (.builtin "object.__class__") "__get__" = some (some (.builtin "getset_descriptor.__get__"))) (g7 : PySem.W.takesIn K (.builtin "object.__class__") = some true) : EkC K c :=
  ⟨z.ga, z.gg, z.exC, by obtain ⟨cd, e, _, _⟩ := z.toKObj.mro; rw [e]; rfl, z.gc, g6, g7, z.obj⟩
theorem KCls.clsE (z : KCls K S kd nm f c o) (hk : kd < 4) : ClsE K c (bOf kd) (newOf kd) (iniOf kd) (tlOf kd) := by
  obtain ⟨q, N, bs, sn, sub, ab, col, dd, k0, k1, k2, k3, k5, e⟩ := z.ex
  exact ⟨bkOf kd hk, ⟨nm, q, N, bs, _, sn, sub, ab, col, dd, k0, k1, k2, k3, k5, e ▸ z.lo, refsOf S kd hk⟩, z.sa, z.exC, z.tC, z.kC, z.xf⟩
/-- isinstance of c's exceptions -/
theorem kit_ref (z : KObj K S kd nm c o) (z' : KObj K S kd' nm' d o') (tD : PySem.W.typeIn K (.ref d) = some (.type "type")) {b : Bool} (h : (Value.ref c :: bmOf S kd).contains (.ref d) = b) : PySem.W.kitOne K (.ref c) (.ref d) = some b := by
  unfold PySem.W.kitOne
  by_cases hcd : c = d
  · subst hcd
    rw [if_pos (beq_self_eq_true _)]
    have : (Value.ref c :: bmOf S kd).contains (.ref c) = true := by simp
    rw [this] at h; rw [h]
  · rw [if_neg (by simpa using hcd)]
    obtain ⟨cd, e, _, _⟩ := z'.mro
    show (if ((PySem.W.clsIn K d).isSome && PySem.W.typeIn K (.ref d) == some (.type "type")) = true then PySem.W.subIn K (.ref c) (.ref d) else none) = some b
    rw [e, tD, if_pos (by simp), z.sub, h]
theorem kit_own (z : KCls K S kd nm f c o) : PySem.W.kitOne K (.ref c) (.ref c) = some true := kit_ref z.toKObj z.toKObj z.tC (by simp)
theorem kit_oth {oS : Obj} {f' : Str} (z : KCls K S kd nm f c o) (z' : KCls K S kd' nm' f' d o') (zS : KObj K S 3 "SameError" S oS) (h : nm ≠ nm') (h' : "SameError" ≠ nm') : PySem.W.kitOne K (.ref c) (.ref d) = some false := by
  refine kit_ref z.toKObj z'.toKObj z'.tC ?_
  have h1 := z.toKObj.ne z'.toKObj h
  have h2 := zS.ne z'.toKObj h'
  match kd with
  | 0 =>
    have := tl_noref d 0
    simp only [bmOf, List.contains_cons, this, Bool.or_false, Bool.or_eq_false_iff]
    exact ⟨by simpa using h1.symm, by simpa using h2.symm⟩
  | k + 1 =>
    have := tl_noref d (k + 1)
    simp only [bmOf, List.contains_cons, this, Bool.or_false]
    simpa using h1.symm
theorem kit_base {oS : Obj} (z : KCls K S kd nm f c o) (zS : KObj K S 3 "SameError" S oS) (tS : PySem.W.typeIn K (.ref S) = some (.type "type")) (h : nm ≠ "SameError") : PySem.W.kitOne K (.ref c) (.ref S) = some (kd == 0) := by
  refine kit_ref z.toKObj zS tS ?_
  have h1 := z.toKObj.ne zS h
  match kd with
  | 0 => simp [bmOf]
  | k + 1 =>
    have := tl_noref S (k + 1)
    simp only [bmOf, List.contains_cons, this, Bool.or_false]
    have h2 : (Value.ref S == Value.ref c) = false := by simpa using h1.symm
    rw [h2]; rfl
theorem kit_type (z : KObj K S kd nm c o) {T : String} (hm : PySem.W.kitMeta T = true) : PySem.W.kitOne K (.ref c) (.type T) = some ((tlOf kd).contains (.type T)) := by
  unfold PySem.W.kitOne
  rw [if_neg (by simp)]
  show (if PySem.W.kitMeta T = true then PySem.W.subIn K (.ref c) (.type T) else none) = _
  rw [if_pos hm, z.sub]
  match kd with
  | 0 => simp [bmOf]
  | k + 1 => simp [bmOf]
/-- the def of its __init__ -/
def dfOf (K : PySem.W.Frag) : Bool → Value → Prop
  | true, dV => ∃ T oT, dV = .ref T ∧ K.lookup T = some oT ∧ ∃ cl dd n sl, oT = ⟨cl, dd, .seq #[.none] n, sl⟩
  | false, dV => dV = .none
def dvOf : Bool → List V
  | true => [.non]
  | false => []
theorem KIni.fund {qual : Str} {st : Stmt} {f1 : Addr} {o1 : Obj} {dV cd : Value} (z : KIni K qual st c f1 o1 dV cd) {b : Bool} (h : dfOf K b dV) : ∃ fd, FunD K "__init__" qual (defArgs st) (defBody st) (defScope st) (dvOf b) [] f1 fd ∧ ∃ kV doc pm an ct, fd = PySem.W.fnOf "__init__" qual (defArgs st) (defBody st) (defScope st) dV kV doc pm an cd ct := by
  obtain ⟨oc, od, kV, doc, pm, an, ct, osl, e⟩ := z.e1
  refine ⟨_, ⟨⟨oc, od, dV, kV, doc, pm, an, cd, ct, osl, rfl, e ▸ z.l1, z.c1, ?_, .inl rfl⟩, z.k1⟩, kV, doc, pm, an, ct, rfl⟩
  cases b with
  | true =>
    obtain ⟨T, oT, e1, e2, cl, dd, n, sl, e3⟩ := h
    exact .inr ⟨by simp [dvOf], T, oT, [.none], n, e1, e2, by rw [e3], .cons rfl .nil⟩
  | false => exact .inl ⟨rfl, h⟩
end
/-- a def of the module -/
structure KDef (K : PySem.W.Frag) (nm : Str) (st : Stmt) (f : Addr) (o : Obj) (cd : Value) : Prop where
  aF : PySem.W.nsIn K mainGlobals nm = some (some (.ref f))
  lo : K.lookup f = some o
  ex : ∃ oc od kV doc pm an ct osl, o = ⟨oc, od, .func (PySem.W.fnOf nm nm (defArgs st) (defBody st) (defScope st) .none kV doc pm an cd ct), osl⟩
  co : PySem.W.codeIn K cd nm = true
  kp : PySem.W.keepIn K (.ref f) = true
theorem KDef.fun_ {K : PySem.W.Frag} {nm : Str} {st : Stmt} {f : Addr} {o : Obj} {cd : Value} (z : KDef K nm st f o cd) : ∃ fd, Fun K nm nm st f fd ∧ ∃ kV doc pm an ct, fd = PySem.W.fnOf nm nm (defArgs st) (defBody st) (defScope st) .none kV doc pm an cd ct := by
  obtain ⟨oc, od, kV, doc, pm, an, ct, osl, e⟩ := z.ex
  exact ⟨_, fun_mk (e ▸ z.lo) z.co z.kp, kV, doc, pm, an, ct, rfl⟩
end TL
namespace TL
open PySem PySem.Spec PyProof.Rows L2
/-- the body of __init__ -/
def iniBody (bn m f pn : Str) (p1 p2 p3 p4 p5 p6 p7 p8 p9 p10 : Pos) (j : Nat) : List Stmt :=
  [.Expr (.Call (.Attribute (.Name bn p1) "__init__" p2) [.Name "self" p3, .Constant (.str m) j p4] [] p5) p6, .Assign [.Attribute (.Name "self" p7) f p8] (.Name pn p9) p10]
/-- what rfl shows of the text of an __init__ -/
def IniText (st : Stmt) (qual bn m f pn : Str) (f1 : Addr) : Prop := ∃ p1 p2 p3 p4 p5 p6 p7 p8 p9 p10 j, defBody st = iniBody bn m f pn p1 p2 p3 p4 p5 p6 p7 p8 p9 p10 j ∧
  (∀ (cdv : Value) (n : Nat), (envOfC qual (defScope st) n f1 cdv).kindOf bn = some .globalImplicit) ∧
  (∀ (cdv : Value) (n : Nat), ∃ pl : Sem Bool, eval (.Call (.Attribute (.Name bn p1) "__init__" p2) [.Name "self" p3, .Constant (.str m) j p4] [] p5) (envOfC qual (defScope st) n f1 cdv) = (do
      let ov ← eval (.Name bn p1) (envOfC qual (defScope st) n f1 cdv)
      standAt p2.atName
      let (f, first) ← holding [ov] (getMethod ov "__init__" pl)
      callWith p5 f first (backTo p5 (starEach [.Name "self" p3, .Constant (.str m) j p4] (envOfC qual (defScope st) n f1 cdv))) (backToKw p5 (keywordEach [] (envOfC qual (defScope st) n f1 cdv))))) ∧
  (∀ (cdv : Value) (n : Nat), swapsWith (.Call (.Attribute (.Name bn p1) "__init__" p2) [.Name "self" p3, .Constant (.str m) j p4] [] p5) none p6.line (envOfC qual (defScope st) n f1 cdv) = pure false) ∧
  (∀ (cdv : Value) (n : Nat), swapsWith (.Name pn p9) (some (.Attribute (.Name "self" p7) f p8)) p10.line (envOfC qual (defScope st) n f1 cdv) = pure false)
theorem clsO_of {P : Program} {w : World} {K : PySem.W.Frag} {mg : Str → Option Value} {base : Heap} {S c f1 : Addr} {kd : Nat} {nm f qual pn bn m : Str} {st : Stmt} {o o1 : Obj} {dV cd : Value} {b : Bool} (z : KCls K S kd nm f c o) (hk : kd < 4) (zi : KIni K qual st c f1 o1 dV cd) (hd : dfOf K b dV)
    (sc : FnScope ["self", pn] ["self", pn] (defScope st)) (hpd : (pn == ("__debug__" : Str)) = false) (hpc : (pn == ("__classdict__" : Str)) = false) (tx : IniText st qual bn m f pn f1)
    (hB : ∀ (X : Cx) (p1 : Pos), X.K = K → X.mg = mg → Gl X bn → BaseAt X bn p1 (iniOf kd)) :
    ∃ fd, ClsO P w K mg base c f1 f m (bOf kd) (newOf kd) (iniOf kd) (tlOf kd) fd ["self", pn] ∧ FunD K "__init__" qual (defArgs st) (defBody st) (defScope st) (dvOf b) [] f1 fd := by
  obtain ⟨fd, F, _⟩ := zi.fund hd
  obtain ⟨p1, p2, p3, p4, p5, p6, p7, p8, p9, p10, j, eb, e1, e2, e3, e4⟩ := tx
  refine ⟨fd, ⟨z.clsE hk, zi.a1, zi.t1, ?_⟩, F⟩
  have F' : FunD K "__init__" qual (defArgs st) (iniBody bn m f pn p1 p2 p3 p4 p5 p6 p7 p8 p9 p10 j) (defScope st) (dvOf b) [] f1 fd := eb ▸ F
  exact init_fn F' sc hpd hpc (z.clsE hk) z.nf (fun cdv A outer s H E => hB _ p1 rfl rfl (e1 cdv _)) (fun cdv n => e2 cdv n) (fun cdv n => e3 cdv n) (fun cdv n => e4 cdv n)
/-- what a call of the class asks: C(x), C(f = x), C() -/
structure CAll (P : Program) (w : World) (K : PySem.W.Frag) (mg : Str → Option Value) (base : Heap) (c f1 : Addr) (f m pn : Str) (kd : Nat) (b : Bool) (fd : FuncData) : Prop where
  z : ClsO P w K mg base c f1 f m (bOf kd) (newOf kd) (iniOf kd) (tlOf kd) fd ["self", pn]
  pos : Binds K fd ["self", pn] []
  kw : ∀ (s : Shared) (self u : Value), K.In s.heap → BindsTo s fd ⟨[self], ([pn] : List Str).zip [u]⟩ ((["self", pn] : List Str).zip [self, u])
  no : b = true → Binds K fd ["self", pn] [.none]
theorem cAll_d {P : Program} {w : World} {K : PySem.W.Frag} {mg : Str → Option Value} {base : Heap} {c f1 : Addr} {kd : Nat} {f qual pn m : Str} {st : Stmt} {fd : FuncData} (z : ClsO P w K mg base c f1 f m (bOf kd) (newOf kd) (iniOf kd) (tlOf kd) fd ["self", pn]) (F : FunD K "__init__" qual (defArgs st) (defBody st) (defScope st) [.non] [] f1 fd)
    (h2 : ∀ (T : Addr) (kV doc pm : Value) (an : Option Addr) (cdv ct : Value) (us its : List Value), us.length = 2 → its.length = 1 → ∃ k, bindArgs (PySem.W.fnOf "__init__" qual (defArgs st) (defBody st) (defScope st) (.ref T) kV doc pm an cdv ct) ⟨us, []⟩ = seqItems? (.ref T) >>= k ∧ k (some its.toArray) = pure ((["self", pn] : List Str).zip (us ++ its.drop 1)))
    (h1 : ∀ (T : Addr) (kV doc pm : Value) (an : Option Addr) (cdv ct : Value) (us its : List Value), us.length = 1 → its.length = 1 → ∃ k, bindArgs (PySem.W.fnOf "__init__" qual (defArgs st) (defBody st) (defScope st) (.ref T) kV doc pm an cdv ct) ⟨us, []⟩ = seqItems? (.ref T) >>= k ∧ k (some its.toArray) = pure ((["self", pn] : List Str).zip (us ++ its.drop 0)))
    (hk : ∀ (T : Addr) (kV doc pm : Value) (an : Option Addr) (cdv ct : Value) (us its ws : List Value), us.length = 1 → its.length = 1 → ws.length = 1 → ∃ k, bindArgs (PySem.W.fnOf "__init__" qual (defArgs st) (defBody st) (defScope st) (.ref T) kV doc pm an cdv ct) ⟨us, ([pn] : List Str).zip ws⟩ = seqItems? (.ref T) >>= k ∧ k (some its.toArray) = pure ((["self", pn] : List Str).zip (us ++ ws))) :
    CAll P w K mg base c f1 f m pn kd true fd := by
  refine ⟨z, ?_, ?_, fun _ => ?_⟩
  · obtain ⟨ds, v, hb⟩ := F.binds1 (ps := ["self", pn]) 2 1 (by simp) rfl h2
    cases ds with
    | nil => exact hb
    | cons a r => cases v
  · obtain ⟨its, kb⟩ := F.kbindsD (ps := ["self", pn]) 1 [pn] (fun us _ ws => us ++ ws) (by simp) (fun r1 _ r3 => r1.append r3) hk
    exact fun s self u KI => kb.to s [self] [u] KI rfl rfl
  · obtain ⟨ds, v, hb⟩ := F.binds1 (ps := ["self", pn]) 1 0 (by simp) rfl h1
    cases v with
    | cons r t =>
      cases t
      have r : _ = Value.none := r
      subst r
      exact hb
theorem cAll_n {P : Program} {w : World} {K : PySem.W.Frag} {mg : Str → Option Value} {base : Heap} {c f1 : Addr} {kd : Nat} {f qual pn m : Str} {st : Stmt} {fd : FuncData} (z : ClsO P w K mg base c f1 f m (bOf kd) (newOf kd) (iniOf kd) (tlOf kd) fd ["self", pn]) (F : FunD K "__init__" qual (defArgs st) (defBody st) (defScope st) [] [] f1 fd)
    (h2 : ∀ (kV doc pm : Value) (an : Option Addr) (cdv ct : Value) (us : List Value), us.length = 2 → bindArgs (PySem.W.fnOf "__init__" qual (defArgs st) (defBody st) (defScope st) .none kV doc pm an cdv ct) ⟨us, []⟩ = pure ((["self", pn] : List Str).zip us))
    (hk : ∀ (kV doc pm : Value) (an : Option Addr) (cdv ct : Value) (a u : Value), bindArgs (PySem.W.fnOf "__init__" qual (defArgs st) (defBody st) (defScope st) .none kV doc pm an cdv ct) ⟨[a], ([pn] : List Str).zip [u]⟩ = pure ((["self", pn] : List Str).zip [a, u])) :
    CAll P w K mg base c f1 f m pn kd false fd := by
  refine ⟨z, F.bindsN h2, fun s self u KI => ?_, fun h => by cases h⟩
  obtain ⟨oc, od, dV, kV, doc, pm, an, cdv, ct, osl, rfl, lk, hcd, hD, hK⟩ := F.ex
  rcases hD with ⟨_, rfl⟩ | ⟨e, _⟩
  · exact .of_eq (hk kV doc pm an cdv ct self u)
  · exact absurd rfl e
end TL
namespace TL
open PySem PySem.Spec PyProof.Rows L2
theorem fnT_bad {P : Program} {w : World} {K : PySem.W.Frag} {mg : Str → Option Value} {base : Heap} {C : Cn} {k : Nat} {f : Addr} {fd : FuncData} {ps : List Str} : FnT P w K mg base C k f fd ps (fun _ => .bad) :=
  ⟨fun as h => absurd rfl h, fun A outer s H args us vs Q E _ _ _ _ ⟨as, A', r, m⟩ => m.elim⟩
theorem fnT_fun {P : Program} {w : World} {K : PySem.W.Frag} {mg : Str → Option Value} {base : Heap} {C : Cn} {k : Nat} {f : Addr} {fd : FuncData} {N ps : List Str} {nm : Str} {st : Stmt} {m : SS → OS} (F : Fun K nm nm st f fd) (S : FnScope N ps (defScope st))
    (hb : ∀ (cdv : Value) (A : Around) (outer : List Env) (s : Shared) (H : Hp) (E : XK), TRoom k (A.deeper (envOfC nm (defScope st) s.heap.objs.size f cdv)) → MSs (cxOf (CX P w) P w K mg base N nm (defScope st) f cdv A outer s H E) C (defBody st) m) :
    FnT P w K mg base C (k + 1) f fd ps (runB N.length ps.length m) := by
  obtain ⟨oc, od, kV, doc, pm, an, cdv, ct, osl, e, lk, hcd⟩ := F.ex
  subst e
  exact fnT_of lk hcd S fun A outer s H E hr => hb cdv A outer s H E hr
theorem KDef.mg {K : PySem.W.Frag} {nm : Str} {st : Stmt} {f : Addr} {o : Obj} {cd : Value} {h : Heap} {mg : Str → Option Value} (z : KDef K nm st f o cd) (X : K.In h) (G : h.Ns mainGlobals mg) : mg nm = some (.ref f) := PySem.W.mg_of X G z.aF
end TL
namespace TL
open PySem PySem.Spec PyProof.Rows L2
theorem ty_1 : typeOf (.type "OverflowError") = pure (.type "type") := by kernel_rfl
theorem ty_2 : typeOf (.type "LookupError") = pure (.type "type") := by kernel_rfl
end TL

set_option Elab.async false
set_option linter.all false
set_option maxRecDepth 100000
set_option maxHeartbeats 4000000
/-! TL19: try .. except .. as ..: the caught exception is a value. -/
namespace TL
open PySem PySem.Spec PyProof.Rows L2

/-! ### what it does -/
def clr (i : Nat) : OS → OS
  | .nx σ => .nx (σ.set i none)
  | .bk σ => .bk (σ.set i none)
  | .ct σ => .ct (σ.set i none)
  | .rt d σ => .rt d (σ.set i none)
  | .rtm m σ => .rtm m (σ.set i none)
  | _ => .bad
def clrO : Option Nat → OS → OS
  | some i, o => clr i o
  | none, .ex _ _ => .bad
  | none, o => o
def setO (σ : SS) (d : D) : Option Nat → SS
  | some i => σ.set i (some (.val d))
  | none => σ
structure Hnd where
  q : Nat → Option Bool
  n : Option Nat
  m : SS → OS
def sHnds : List Hnd → Ex → SS → OS
  | [], x, σ => .ex x σ
  | h :: r, x, σ => match h.q x.c with
    | some true => clrO h.n (h.m (setO σ (.exc x.c x.d) h.n))
    | some false => sHnds r x σ
    | none => .bad
def sTry (b : SS → OS) (hs : List Hnd) : SS → OS := fun σ => match b σ with
  | .ex x σ1 => sHnds hs x σ1
  | o => o

/-! ### the caught object becomes a value -/
section
variable {X : Cx} {pins : List (Addr × Obj)} {τ : L2.St} {H : Hp} {s : Shared} {a dd : Addr} {cls : Value} {oe : Obj} {vs : Array Value}
theorem Inv.suite0 (I : Inv X pins τ H s) (a : Addr) : Inv (X.suite a (X.pn ++ pins)) [] τ H s :=
  ⟨I.ok.suite _ _, I.os, I.bare, I.base, I.loc, I.cell, I.free, I.freeC, fun p hp => I.pin p (by rw [List.append_nil] at hp; exact hp), I.hok, I.len⟩
theorem Inv.unsuite0 {pn' : List (Addr × Obj)} (I : Inv (X.suite a (X.pn ++ pins)) pn' τ H s) (ok : X.Ok) : Inv X pins τ H s :=
  ⟨ok, I.os, I.bare, I.base, I.loc, I.cell, I.free, I.freeC, fun p hp => I.pin p (List.mem_append_left _ hp), I.hok, I.len⟩
/-- an object that nobody tracks and that was not there at the entry is tracked from now on -/
theorem Inv.track {o : HO} (I : Inv X pins τ H s) (na : H a = none) (new : X.s_0.heap.get? a = none) (nL : a ≠ X.env.locals) (nC : ∀ x c, X.env.cells.lookup x = some c → c ≠ a) (nP : ∀ p ∈ X.pn ++ pins, p.1 ≠ a) (ok : ObjOk X.prog X.w (upd H a o) s.heap a o) : Inv X pins τ (upd H a o) s := by
  obtain ⟨hp, g, d, t, os⟩ := s
  have nea : ∀ {b : Addr} {u : HO}, H b = some u → b ≠ a := fun {b u} e z => by rw [z, na] at e; cases e
  refine ⟨I.ok, I.os, I.bare, ?_, I.loc, I.cell, ?_, ?_, fun p hp' => ?_, ?_, I.len⟩
  · obtain ⟨k1, k2, k3, k4, k5, k6, k7⟩ := I.base
    refine ⟨k1, k2, fun b ob e n hx => ?_, k4, fun b xs e => ?_, fun b ob u e => ?_, fun b ps e => ?_⟩
    · rw [upd_ne (show b ≠ a by rintro rfl; rw [new] at e; cases e)]; exact k3 b ob e n hx
    · have := k5 b xs e; rw [upd_ne (nea this)]; exact this
    · have := k6 b ob u e; rw [upd_ne (nea this)]; exact this
    · obtain ⟨more, q⟩ := k7 b ps e
      exact ⟨more, by rw [upd_ne (nea q)]; exact q⟩
  · rw [upd_ne (Ne.symm nL)]; exact I.free
  · intro x c e; rw [upd_ne (nC x c e)]; exact I.freeC x c e
  · obtain ⟨h1, h2, h3⟩ := I.pin p hp'
    exact ⟨h1, by rw [upd_ne (nP p hp')]; exact h2, h3⟩
  · intro b u e
    by_cases hb : b = a
    · subst hb
      rw [upd_same] at e; cases e
      exact ok
    · rw [upd_ne hb] at e
      refine (I.hok b u e).stay (fun c' v hc w => w) (fun c' hc => ?_) (fun c' xs hc => ?_)
      · rw [upd_ne (nea hc)]; exact hc
      · rw [upd_ne (nea hc)]; exact hc
end

/-! ### the rule -/
inductive HnOk (X : Cx) (C : Cn) : List ExceptHandler → List Hnd → Prop
  | nil : HnOk X C [] []
  | as_ {x n : Str} {c : Value} {i : Nat} {q : Nat → Option Bool} {m : SS → OS} {b0 : Stmt} {suite : List Stmt} {np pos' : Pos} {hds : List ExceptHandler} {l : List Hnd} (hc : Names X x c) (hq : ∀ i b, q i = some b → PySem.W.exmOne X.K (.ref (C.ca i)) c = some b) (hi : X.N[i]? = some n) (hln : X.env.kindOf n = some .local)
      (hsu : ∀ (a : Addr) (pn : List (Addr × Obj)), MSs (X.suite a pn) C (b0 :: suite) m) (r : HnOk X C hds l) : HnOk X C (.ExceptHandler (some (.Name x np)) (some n) (b0 :: suite) pos' :: hds) (⟨q, some i, m⟩ :: l)
  | no_ {x : Str} {c : Value} {q : Nat → Option Bool} {m : SS → OS} {b0 : Stmt} {suite : List Stmt} {np pos' : Pos} {hds : List ExceptHandler} {l : List Hnd} (hc : Names X x c) (hq : ∀ i b, q i = some b → PySem.W.exmOne X.K (.ref (C.ca i)) c = some b)
      (hsu : ∀ (a : Addr) (pn : List (Addr × Obj)), MSs (X.suite a pn) C (b0 :: suite) m) (r : HnOk X C hds l) : HnOk X C (.ExceptHandler (some (.Name x np)) none (b0 :: suite) pos' :: hds) (⟨q, none, m⟩ :: l)
/-- what the body's exceptions must meet -/
def wHn (C : Cn) (Wout : WX) (D' : Ends) (l : List Hnd) : WX := fun cls d τ H => ∃ G σ x, RX C H x cls d ∧ SR C G H σ τ ∧ PostS C Wout G τ H (sHnds l x σ) D'
section
variable {X : Cx} {C : Cn} {body : List Stmt} {h0 : ExceptHandler} {hds : List ExceptHandler} {l : List Hnd} {pos : Pos} {b : SS → OS}
theorem try_core {W : WX} {D' : Ends} {τ : L2.St} {H : Hp} (h : tSt C W (sTry b l) D' τ H) : tSt C (wHn C W D' l) b D' τ H := by
  obtain ⟨G, σ, sr, p⟩ := h
  have p : PostS C W G τ H (match b σ with | .ex x σ1 => sHnds l x σ1 | o => o) D' := p
  refine ⟨G, σ, sr, ?_⟩
  cases e : b σ with
  | ex x σ1 =>
    rw [e] at p
    exact fun cls d τ' H' rx sr' fx => ⟨G, σ1, x, rx, sr', p.fx fx⟩
  | bad => rw [e] at p; exact p
  | nx σ2 => rw [e] at p; exact p
  | bk σ2 => rw [e] at p; exact p
  | ct σ2 => rw [e] at p; exact p
  | rt d σ2 => rw [e] at p; exact p
  | rtm m2 σ2 => rw [e] at p; exact p
/-- the ends behind a suite: the clause's name is gone -/
def endsO (D' : Ends) : Option Nat → Ends
  | some i => { nx := fun σ' H' => D'.nx (σ'.set i none) H', rt := D'.rt, bk := fun σ' H' => D'.bk (σ'.set i none) H', ct := fun σ' H' => D'.ct (σ'.set i none) H' }
  | none => D'
def setV (τ : L2.St) (v : V) : Option Nat → L2.St
  | some i => τ.set i (some v)
  | none => τ
theorem suite_core {W : WX} {D' : Ends} {τ : L2.St} {H : Hp} {G : Gh} {σ : SS} {x : Ex} {v : V} {n : Option Nat} {m : SS → OS} (sr : SR C G H σ τ) (rv : Rp C H (.exc x.c x.d) v) (p : PostS C W G τ H (clrO n (m (setO σ (.exc x.c x.d) n))) D') :
    tSt C (fun _ _ _ _ => False) m (endsO D' n) (setV τ v n) H := by
  cases n with
  | none =>
    refine ⟨G, σ, sr, ?_⟩
    have p : PostS C W G τ H (match m σ with | .ex _ _ => .bad | o => o) D' := by
      have e : clrO none (m σ) = (match m σ with | .ex _ _ => .bad | o => o) := by cases m σ <;> rfl
      rw [← e]; exact p
    cases e : m σ with
    | ex x2 σ2 => rw [e] at p; exact p.elim
    | bad => rw [e] at p; exact p
    | nx σ2 => rw [e] at p; exact p
    | bk σ2 => rw [e] at p; exact p
    | ct σ2 => rw [e] at p; exact p
    | rt d σ2 => rw [e] at p; exact p
    | rtm m2 σ2 => rw [e] at p; exact p
  | some i =>
    refine ⟨G, σ.set i (some (.val (.exc x.c x.d))), sr.setVal rv, ?_⟩
    have p : PostS C W G τ H (clr i (m (σ.set i (some (.val (.exc x.c x.d)))))) D' := p
    cases e : m (σ.set i (some (.val (.exc x.c x.d)))) with
    | ex x2 σ2 => rw [e] at p; exact p.elim
    | bad => rw [e] at p; exact p
    | nx σ2 => rw [e] at p; exact fun τ' H' s f => p _ H' s.setNone f
    | bk σ2 => rw [e] at p; exact fun τ' H' s f => p _ H' s.setNone f
    | ct σ2 => rw [e] at p; exact fun τ' H' s f => p _ H' s.setNone f
    | rt d σ2 => rw [e] at p; exact fun v' τ' H' rv' s f => p v' _ H' rv' s.setNone f
    | rtm m2 σ2 => rw [e] at p; exact fun a o τ' H' h1 h2 h3 s f => p a o _ H' h1 h2 h3 s.setNone f
theorem ms_try (hst : X.stack = X.env :: X.outer) (hfm : X.env.frame = some X.env.locals) (hex : X.ex = []) (hN : X.N.Nodup) (hK : X.K = C.K) (hb : ∀ (pn : List (Addr × Obj)), MSs (X.tr pn X.xe) C body b) (hh : HnOk X C (h0 :: hds) l) : MS X C (.Try body (h0 :: hds) [] [] pos) (sTry b l) := by
  refine ⟨fun E W tk pw => ⟨fun pins s τ H D' I h => ?_⟩⟩
  have ok := I.ok
  have hfr : (X.wish E).A.frames = some ((X.wish E).env :: (X.wish E).outer) := by rw [ok.frames]; exact congrArg some hst
  refine wpAny_Try_except ?_
  refine wpAny_mono (((hb ((X.wish E).pn ++ pins)).ps (fun e s₁ => wpAny (model X.prog X.w) X.A (noteFrame e X.env) (fun _ s₂ => wpAny (model X.prog X.w) X.A (setFlight e none) (fun _ s₃ =>
    wpAny (model X.prog X.w) X.A (handleBy e X.env (h0 :: hds)) (SP (X.wish E) pins D') (X.wish E).xe s₃) (X.wish E).xe s₂) (X.wish E).xe s₁) (wHn C W D' l) (fun u s' xx => ?_) PassesOwn.looking).run [] s τ H D' (I.toTry _) (try_core h)) (fun f s1 hsp => ?_) (fun e s1 he => he)
  · obtain ⟨a, B, sI, pins', σ', H', cls, d, rfl, J', nb, up, sky, na, os, ag, G, σs, x, rx, sr, p⟩ := xx
    have J : Inv (X.wish E) pins σ' H' sI := J'.ofTry ok
    have sky' : Sky B (X.env :: X.outer) a (Zc cls d) X.env.locals s'.heap := by rw [← hst]; exact sky
    show wpAny (model X.prog X.w) X.A (noteFrame (.ref a) X.env) _ _ _
    refine Sky.land Zc.steady hfr hfm sky' fun h3 fl3 up3 => ?_
    have J3 : Inv (X.wish E) pins σ' H' { s' with heap := h3 } := J.landed nb fl3.1 (up.trans up3) os ag
    obtain ⟨oe3, vs3, he3, hz3, hd3⟩ := fl3.there
    have apart : ∀ {h : Heap} {o : Obj} {vs : Array Value}, h.FunFrames B (X.env :: X.outer) → h.get? a = some o → o.data = .fields vs → a ∉ frs (X.env :: X.outer) := fun {h o vs} ff e dd hm => by
      obtain ⟨_, o', e', hnf⟩ := ff.mem hm
      rw [e] at e'; cases e'; exact hnf _ dd
    have nfr := apart fl3.2.2.1 he3 hd3
    have nL : a ≠ X.env.locals := fun z => nfr (List.mem_filterMap.mpr ⟨X.env, List.mem_cons_self, by rw [hfm, z]⟩)
    have nI : sI.heap.get? a = none := by
      cases q : sI.heap.get? a with
      | none => rfl
      | some o =>
        have := nb a o q (by rw [show (X.wish E).stack = X.env :: X.outer from hst]; exact nfr)
        rw [fl3.2.1] at this; cases this
    have n0 : X.s_0.heap.get? a = none := by
      cases q : X.s_0.heap.get? a with
      | none => rfl
      | some o =>
        obtain ⟨o', e'⟩ := J.base.there a o q (by rw [show (X.wish E).ex = [] from hex]; simp)
        rw [nI] at e'; cases e'
    have nP : ∀ p ∈ (X.wish E).pn ++ pins, p.1 ≠ a := fun p hp z => by
      obtain ⟨q, _⟩ := J.pin p hp
      rw [z, nI] at q; cases q
    have nC : ∀ y c, X.env.cells.lookup y = some c → c ≠ a := fun y c e z => by
      obtain ⟨v, ob, q, _⟩ := J.cell y c e
      rw [z, nI] at q; cases q
    obtain ⟨ecls, dd, fs, v0, rfl, hdd, hlk, rv0⟩ := rx
    subst ecls
    have sm : Same H' (upd H' a (C.eo x.c a dd)) := same_new na
    have rv : Rp C (upd H' a (C.eo x.c a dd)) (.exc x.c x.d) (.ref a) := by
      simp only [Rp]
      exact ⟨a, dd, v0, fs, rfl, upd_same, sm _ _ hdd, hlk, rv0.fx (.of_same sm)⟩
    have sr2 := sr.same sm
    -- at any heap that it flies over, the object is a value
    have tracked : ∀ h, HandSPX.FlyingZ B (X.env :: X.outer) a (Zc (.ref (C.ca x.c)) (some dd)) h → s'.heap.UpToSlots h → Inv (X.wish E) pins σ' (upd H' a (C.eo x.c a dd)) { s' with heap := h } := fun h fl u => by
      have K := J.landed (s' := { s' with heap := h }) nb fl.1 (up.trans u) os ag
      obtain ⟨oe, vs, he, hz, hd⟩ := fl.there
      exact TL.Inv.track K na n0 nL nC nP (exH_ok he hz hd)
    have J5 := tracked h3 fl3 up3
    have LT : PySem.W.Looks (model X.prog X.w) h3 (typeOf (.ref a)) (.ref (C.ca x.c)) := fun A Q E s k q => wpAny_typeOf_ref (k _ _ he3) (by rw [hz3.1]; exact q)
    have test : ∀ {y : Str} {c : Value} {np : Pos} {Q : Value → Shared → Prop} {E' : Value → Shared → Prop}, Names X y c → Q c { s' with heap := h3 } → wpAny (model X.prog X.w) (X.A.mark (some (.ref a))) (eval (.Name y np) X.env) Q E' { s' with heap := h3 } := fun {y c np Q E'} hc q => by
      obtain ⟨hg, hdbg, hm | ⟨hm, hv, hnn⟩⟩ := hc
      · exact ld_glob (X := (X.wish E).suite a ((X.wish E).pn ++ pins)) (TL.Inv.suite0 J3 a) hg hm q hdbg
      · exact ld_blt (X := (X.wish E).suite a ((X.wish E).pn ++ pins)) (TL.Inv.suite0 J3 a) hg hm hv q hnn hdbg
    have go : ∀ {hds' : List ExceptHandler} {l' : List Hnd}, HnOk X C hds' l' → PostS C W G σ' H' (sHnds l' x σs) D' →
        wpAny (model X.prog X.w) X.A (handleBy (.ref a) X.env hds') (SP (X.wish E) pins D') (X.wish E).xe { s' with heap := h3 } := by
      intro hds' l' hk
      induction hk with
      | nil =>
        intro w
        refine wpAny_handleBy_nil ?_
        obtain ⟨k1, k2, k3, oe, vs, T, oT, ts', he, hz, hd, h1, hr⟩ := id fl3
        unfold PySem.passOn; refine wpAny_bind (wpAny_field he hd h1 ?_)
        rw [if_neg (show ¬ ((Value.ref T == Value.none) = true) from by simp)]
        have fin : wpAny (model X.prog X.w) X.A (setFlight (.ref a) X.env.frame) (fun _ s4 => wpAny (model X.prog X.w) X.A (throw (.ref a) : Sem Flow) (SP (X.wish E) pins D') (X.wish E).xe s4) (X.wish E).xe { s' with heap := h3 } := by
          rw [hfm]
          refine HandSPX.setFlight_upZ fl3 fun h4 hh4 up4 => wpAny_throw (tk _ _ ?_)
          refine ⟨a, B, sI, pins, σ', H', _, _, rfl, J, nb, (up.trans up3).trans up4, .inr (.inr (by rw [show (X.wish E).stack = X.env :: X.outer from hst]; exact hh4)), na, os, ag, ?_⟩
          exact w _ _ σ' H' ⟨rfl, dd, fs, v0, rfl, hdd, hlk, rv0⟩ sr (.refl _)
        first | exact wpAny_bind (wpAny_pure (wpAny_bind fin)) | exact wpAny_bind fin
      | @as_ y n c i q m b0 suite np pos' hds2 l2 hc hq hi hln hsu r ih =>
        intro w
        cases eq : q x.c with
        | none => have w : PostS C W G σ' _ (match q x.c with | some true => clrO (some i) (m (setO σs (.exc x.c x.d) (some i))) | some false => sHnds l2 x σs | none => .bad) D' := w; rw [eq] at w; exact w.elim
        | some k =>
          have w : PostS C W G σ' _ (match q x.c with | some true => clrO (some i) (m (setO σs (.exc x.c x.d) (some i))) | some false => sHnds l2 x σs | none => .bad) D' := w
          rw [eq] at w
          refine wpAny_handleBy_cons (codeAny_handlers_test ?_) (by intro z; cases z)
          refine test hc ((PySem.W.exm_one (M := model X.prog X.w) J3.kIn LT (hq _ _ eq)).here ?_)
          cases k with
          | false => exact ih w
          | true =>
            refine codeAny_handlers_suite_as (HandSPX.lands_againZ fl3 fun h4 fl4 up4 => ?_)
            have S4 := TL.Inv.suite0 (tracked h4 fl4 (up3.trans up4)) a
            refine store_ok (X := (X.wish E).suite a ((X.wish E).pn ++ pins)) (v := .ref a) S4 hN hi (.inl hln) rfl (fun s5 S5 => ?_) (.inr hln)
            refine wpAny_mono (((hsu a ((X.wish E).pn ++ pins)).ps (fun _ _ => False) (fun _ _ _ _ => False) takes_no PassesOwn.never).run [] s5 _ _ _ S5 (suite_core (W := W) (D' := D') (n := some i) sr2 rv (PostS.fx (τ' := σ') w (.of_same sm)))) (fun f s6 hsp => ?_) (fun _ _ z => False.elim z)
            have over : ∀ {σ6 : L2.St} {H6 : Hp} {Q : Shared → Prop}, Inv ((X.wish E).suite a ((X.wish E).pn ++ pins)) [] σ6 H6 s6 → (∀ s7, Inv (X.wish E) pins (σ6.set i none) H6 s7 → Q s7) →
                wpAny (model X.prog X.w) X.A (do bindName X.env n .none; unbindBehindTheSuite X.env n pos') (fun _ s7 => Q s7) (X.wish E).xe s6 := fun {σ6 H6 Q} S6 hq => gone_ok (X := X.wish E) (TL.Inv.unsuite0 S6 ok) hN hi hln hq
            cases f with
            | next => obtain ⟨σ6, H6, S6, q6⟩ := hsp; exact over S6 fun s7 J7 => ⟨_, _, J7, q6⟩
            | brk => obtain ⟨σ6, H6, S6, q6⟩ := hsp; exact over S6 fun s7 J7 => ⟨_, _, J7, q6⟩
            | cont => obtain ⟨σ6, H6, S6, q6⟩ := hsp; exact over S6 fun s7 J7 => ⟨_, _, J7, q6⟩
            | ret u => obtain ⟨v6, σ6, H6, S6, r6, q6⟩ := hsp; exact over S6 fun s7 J7 => ⟨_, _, _, J7, r6, q6⟩
      | @no_ y c q m b0 suite np pos' hds2 l2 hc hq hsu r ih =>
        intro w
        cases eq : q x.c with
        | none => have w : PostS C W G σ' _ (match q x.c with | some true => clrO none (m (setO σs (.exc x.c x.d) none)) | some false => sHnds l2 x σs | none => .bad) D' := w; rw [eq] at w; exact w.elim
        | some k =>
          have w : PostS C W G σ' _ (match q x.c with | some true => clrO none (m (setO σs (.exc x.c x.d) none)) | some false => sHnds l2 x σs | none => .bad) D' := w
          rw [eq] at w
          refine wpAny_handleBy_cons (codeAny_handlers_test ?_) (by intro z; cases z)
          refine test hc ((PySem.W.exm_one (M := model X.prog X.w) J3.kIn LT (hq _ _ eq)).here ?_)
          cases k with
          | false => exact ih w
          | true =>
            refine codeAny_handlers_suite (HandSPX.lands_againZ fl3 fun h4 fl4 up4 => ?_)
            have S4 := TL.Inv.suite0 (tracked h4 fl4 (up3.trans up4)) a
            refine wpAny_mono (((hsu a ((X.wish E).pn ++ pins)).ps (fun _ _ => False) (fun _ _ _ _ => False) takes_no PassesOwn.never).run [] _ _ _ _ S4 (suite_core (W := W) (D' := D') (n := none) sr2 rv (PostS.fx (τ' := σ') w (.of_same sm)))) (fun f s6 hsp => ?_) (fun _ _ z => False.elim z)
            cases f with
            | next => obtain ⟨σ6, H6, S6, q6⟩ := hsp; exact ⟨_, _, TL.Inv.unsuite0 S6 ok, q6⟩
            | brk => obtain ⟨σ6, H6, S6, q6⟩ := hsp; exact ⟨_, _, TL.Inv.unsuite0 S6 ok, q6⟩
            | cont => obtain ⟨σ6, H6, S6, q6⟩ := hsp; exact ⟨_, _, TL.Inv.unsuite0 S6 ok, q6⟩
            | ret u => obtain ⟨v6, σ6, H6, S6, r6, q6⟩ := hsp; exact ⟨_, _, _, TL.Inv.unsuite0 S6 ok, r6, q6⟩
    exact go hh p
  · cases f with
    | next =>
      obtain ⟨σ', H', J', q⟩ := hsp
      exact wpAny_execs_nil ⟨σ', H', J'.ofTry ok, q⟩
    | brk =>
      obtain ⟨σ', H', J', q⟩ := hsp
      exact ⟨σ', H', J'.ofTry ok, q⟩
    | cont =>
      obtain ⟨σ', H', J', q⟩ := hsp
      exact ⟨σ', H', J'.ofTry ok, q⟩
    | ret u =>
      obtain ⟨v, σ', H', J', r, q⟩ := hsp
      exact ⟨v, σ', H', J'.ofTry ok, r, q⟩
end
end TL

set_option Elab.async false
set_option linter.all false
set_option maxRecDepth 100000
set_option maxHeartbeats 4000000
/-! TL20: methods of lists that change; stars; chains. -/
namespace TL
open PySem PySem.Spec PyProof.Rows L2
theorem PostG.fx {β γ : Type} {R : L2.St → Hp → β → γ → Prop} {C : Cn} {W : WX} {τ : L2.St} {G : Gh} {H H1 : Hp} {o : O β} {Q : γ → Hp → Prop} (p : PostG R C W τ G H o Q) (c : Fx C.T H H1) : PostG R C W τ G H1 o Q := by
  cases o with
  | bad => exact p
  | ok b σ => exact fun v H' a s f => p v H' a s (c.trans f)
  | ex x σ => exact fun cls d H' a s f => p cls d H' a s (c.trans f)
section
variable {X : Cx} {C : Cn} {e : Expr} {x : Str} {p1 apos cpos pos : Pos} {m : SS → O D}
theorem lst_ty {K : PySem.W.Frag} {H : Hp} {a : Addr} {vs : List V} (h : H a = some (.lst vs)) : tyV K "list" (.ref a) H := .inl ⟨rfl, vs, .inl (.inl h)⟩
/-- x.append(e) -/
def sApp (i : Nat) (m : SS → O D) : SS → O D := fun σ => match curL σ i with
  | some _ => (m σ).bind fun d σ1 => match curL σ1 i with
    | some ds => if ds.length < LIM then .ok .non (put1 σ1 i (.lst (ds ++ [d]))) else .bad
    | none => .bad
  | none => .bad
theorem me_append (i : Nat) (hN : X.N[i]? = some x) (hv : Vis X.env.scope x) (h : ME X C e m) (hd : (x == ("__debug__" : Str)) = false := by decide) (hcd : (x == ("__classdict__" : Str)) = false := by decide)
    (hbase : attributeBase (.Name x p1) "append" X.env (eval (.Name x p1) X.env) = eval (.Name x p1) X.env := by rfl)
    (hfew : ((backTo cpos (starEach [e] X.env)).all (fun x => !x.1) && (backToKw cpos (keywordEach [] X.env)).all (fun x => x.1.isSome) && decide ([e].length + ([] : List Keyword).length + (if ([] : List Keyword).isEmpty then 0 else 1) < 30)) = true := by rfl)
    (hline : (apos.endLine == cpos.line) = true := by rfl) (hs : starEach [e] X.env = (false, eval e X.env) :: starEach [] X.env := by rfl) (hplain : (backTo cpos (starEach [] X.env)).any (·.1) = false := by rfl) :
    ME X C (.Call (.Attribute (.Name x p1) "append" apos) [e] [] cpos) (sApp i m) := by
  refine ⟨fun E W tk => (pe_bm (X := X.wish E) PySem.F.plainAttrs_list PySem.F.slot_list_append PySem.F.type_list_append mt_append (pv i hN hv hd hcd) (pa_cons (h.pe E W tk) pa_nil hs) hbase hfew hline hs hplain).imp fun τ H Q ⟨G, σ, sr, p⟩ => ?_⟩
  unfold sApp at p
  split at p
  · rename_i ds0 e0
    obtain ⟨a, vs0, ev, ha, _⟩ := sr.curL e0
    refine ⟨_, ev, lst_ty ha, ?_⟩
    refine (tG_bind (R := fun _ => Rp C) (f := fun d σ1 => match curL σ1 i with
      | some ds => if ds.length < LIM then .ok D.non (put1 σ1 i (.lst (ds ++ [d]))) else .bad
      | none => .bad) ⟨G, σ, sr, p⟩).mono fun y H1 ⟨d, r, f, G1, σ1, s1, p1⟩ => ?_
    dsimp only at p1
    split at p1
    · rename_i ds e1
      split at p1
      · rename_i hl
        obtain ⟨a', vs, ev', ha', rl, wr⟩ := s1.curL e1
        rw [ev] at ev'; cases ev'
        obtain ⟨fx, s2⟩ := wr (ds ++ [d]) (vs ++ [y]) (rl.append (.cons r .nil))
        exact ⟨a, vs, y, rfl, rfl, ha', by rw [rl.length, LIM_eq]; exact hl, p1 _ _ .n s2 fx⟩
      · exact p1.elim
    · exact p1.elim
  · exact p.elim
/-- x.pop() -/
def sPop (i : Nat) : SS → O D := fun σ => match curL σ i with
  | some ds => match ds.getLast? with
    | some d => .ok d (put1 σ i (.lst ds.dropLast))
    | none => .bad
  | none => .bad
theorem me_pop (i : Nat) (hN : X.N[i]? = some x) (hv : Vis X.env.scope x) (hd : (x == ("__debug__" : Str)) = false := by decide) (hcd : (x == ("__classdict__" : Str)) = false := by decide)
    (hbase : attributeBase (.Name x p1) "pop" X.env (eval (.Name x p1) X.env) = eval (.Name x p1) X.env := by rfl) (hline : (apos.endLine == cpos.line) = true := by rfl) :
    ME X C (.Call (.Attribute (.Name x p1) "pop" apos) [] [] cpos) (sPop i) := by
  refine ⟨fun E W tk => (pe_bm0 (X := X.wish E) PySem.F.plainAttrs_list PySem.F.slot_list_pop PySem.F.type_list_pop mt_pop (pv i hN hv hd hcd) hbase hline).imp fun τ H Q ⟨G, σ, sr, p⟩ => ?_⟩
  unfold sPop at p
  split at p
  · rename_i ds e0
    split at p
    · rename_i d ed
      obtain ⟨a, vs, ev, ha, rl, wr⟩ := sr.curL e0
      obtain ⟨fx, s2⟩ := wr ds.dropLast vs.dropLast rl.dropLast
      rw [List.getLast?_eq_getElem?] at ed
      obtain ⟨v, e1, r1⟩ := rl.get ed
      refine ⟨_, ev, lst_ty ha, a, vs, v, rfl, rfl, ha, by rw [rl.length]; exact e1, p _ _ (r1.fx fx) s2 fx⟩
    · exact p.elim
  · exact p.elim
/-- *e in a display -/
def sStar (a : SS → O D) (m : SS → O (List D)) : SS → O (List D) := fun σ => (a σ).bind fun d σ1 => match d with
  | .tup xs => (m σ1).bind fun ds σ2 => .ok (xs ++ ds) σ2
  | .lst xs => (m σ1).bind fun ds σ2 => .ok (xs ++ ds) σ2
  | _ => .bad
theorem ma_star {es : List Expr} {a : SS → O D} {mm : SS → O (List D)} {sp : Pos} (hK : X.K = C.K) (ha : ME X C e a) (hm : MA X C es mm) (hs : starEach (.Starred e sp :: es) X.env = (true, eval e X.env) :: starEach es X.env := by rfl) : MA X C (.Starred e sp :: es) (sStar a mm) := by
  refine ⟨fun E W tk => (StX.pa_star (X := X.wish E) (ha.pe E W tk) (hm.pa E W tk) hs).imp fun τ H Q h => ?_⟩
  refine (tG_bind (R := fun _ => Rp C) h).mono fun y H1 ⟨d, r1, f1, h1⟩ => ?_
  cases d with
  | tup xs =>
    obtain ⟨b, vs, rfl, s, rl⟩ := r1.rb.tup
    refine ⟨b, vs, rfl, .inl (by rw [show (X.wish E).K = C.K from hK]; exact s), ?_⟩
    refine (tG_bind (R := fun _ => RpL C) h1).mono fun zs H2 ⟨ds, r2, f2, h2⟩ => ?_
    exact tG_ret h2 _ ((rl.fx f2).append r2)
  | lst xs =>
    obtain ⟨b, vs, rfl, s, rl⟩ := r1.rb.lst
    refine ⟨b, vs, rfl, .inr (by rw [show (X.wish E).K = C.K from hK]; exact s), ?_⟩
    refine (tG_bind (R := fun _ => RpL C) h1).mono fun zs H2 ⟨ds, r2, f2, h2⟩ => ?_
    exact tG_ret h2 _ ((rl.fx f2).append r2)
  | _ => obtain ⟨_, _, _, p⟩ := h1; exact p.elim
end

/-! ### x.extend(e) -/
section
theorem ext_tup (l b : Addr) (xs ys : Array Value) (n k : Nat) (dd : Option Addr) (sl : Array (Option Value)) (small : ¬(!xs.isEmpty && Builtin.List.listTooLong (xs.size + ys.size)) = true) (h1 : xs.size ≤ sizeLine) (h2 : xs.size + ys.size ≤ sizeLine + 1) :
    Meets (Builtin.«list.extend» ⟨[.ref l, .ref b], []⟩) (fun _ R s => s.heap.get? l = some { cls := .type "list", dict := none, data := .seq xs n, slots := #[] } ∧ s.heap.get? b = some { cls := .type "tuple", dict := dd, data := .seq ys k, slots := sl } ∧ R (.ok (.ret Value.none)) { s with heap := s.heap.update l (Obj.mapSeq fun z => z ++ ys), toks := s.toks }) :=
  .of_wp fun P w A R s q => by
    obtain ⟨hp, g, d, t, os⟩ := s; obtain ⟨q1, q2, q⟩ := q
    have e1 := PySem.AutoSeq1.idx_int; have e2 := PySem.AutoSeq1.sub_tuple_tuple; have e3 := PySem.AutoSeq1.sub_list_list; have e4 := PySem.AutoSeq1.sub_tuple_list; have e5 := PySem.AutoSeq1.sub_list_tuple
    have room : (xs ++ ys).size ≤ sizeLine + 1 := by rw [Array.size_append]; exact h2
    wp_walk using (wpAny_updateSeq q1 rfl (hz := h1) (_hz' := room)), wpAny_loadPart' q1, wpAny_loadPart' q2; exact ⟨_, rfl, q⟩
theorem ext_lst (l b : Addr) (xs ys : Array Value) (n k : Nat) (dd : Option Addr) (sl : Array (Option Value)) (small : ¬(!xs.isEmpty && Builtin.List.listTooLong (xs.size + ys.size)) = true) (h1 : xs.size ≤ sizeLine) (h2 : xs.size + ys.size ≤ sizeLine + 1) :
    Meets (Builtin.«list.extend» ⟨[.ref l, .ref b], []⟩) (fun _ R s => s.heap.get? l = some { cls := .type "list", dict := none, data := .seq xs n, slots := #[] } ∧ s.heap.get? b = some { cls := .type "list", dict := dd, data := .seq ys k, slots := sl } ∧ R (.ok (.ret Value.none)) { s with heap := s.heap.update l (Obj.mapSeq fun z => z ++ ys), toks := s.toks }) :=
  .of_wp fun P w A R s q => by
    obtain ⟨hp, g, d, t, os⟩ := s; obtain ⟨q1, q2, q⟩ := q
    have e1 := PySem.AutoSeq1.idx_int; have e2 := PySem.AutoSeq1.sub_tuple_tuple; have e3 := PySem.AutoSeq1.sub_list_list; have e4 := PySem.AutoSeq1.sub_tuple_list; have e5 := PySem.AutoSeq1.sub_list_tuple
    have room : (xs ++ ys).size ≤ sizeLine + 1 := by rw [Array.size_append]; exact h2
    wp_walk using (wpAny_updateSeq q1 rfl (hz := h1) (_hz' := room)), wpAny_loadPart' q1, wpAny_loadPart' q2; exact ⟨_, rfl, q⟩
def rExtAny (K : PySem.W.Frag) : V → List V → Hp → VK → Prop := fun x vs H Q => ∃ l b xs ys, x = .ref l ∧ vs = [.ref b] ∧ H l = some (.lst xs) ∧ (SqT K H b ys ∨ SqL K H b ys) ∧ xs.length + ys.length ≤ sizeLine ∧ Q .non (upd H l (.lst (xs ++ ys)))
theorem mt_extAny {X : Cx} : MtM X "list.extend" (rExtAny X.K) := by
  intro pins s σ H x vs v us Q I rx rv h
  obtain ⟨l, b, xs, ys, rfl, rfl, hH, hB, hz, q⟩ := h
  cases rx
  obtain ⟨u, rfl, ru⟩ := rv.one
  cases ru
  obtain ⟨z, its, n, r, hl, e⟩ := I.lstM hH
  have door : ∀ its2 : List Value, ys.length = its2.length → its.toArray.size + its2.toArray.size ≤ sizeLine := fun its2 q => by rw [List.size_toArray, List.size_toArray]; omega
  have long : ∀ its2 : List Value, ys.length = its2.length → ¬ (!its.toArray.isEmpty && Builtin.List.listTooLong (its.toArray.size + its2.toArray.size)) = true := fun its2 q => by
    rw [notLongL (door its2 q), Bool.and_false]; exact Bool.false_ne_true
  rcases hB with hB | hB
  · obtain ⟨its2, r2, pl, _⟩ := I.tuple hB
    obtain ⟨⟨c2, d2, da2, sl2⟩, g1, g2, n2, g3⟩ := pl
    simp only at g2 g3
    subst g2 g3
    have dr := door its2 r2.length
    refine call_meets F.slot_list_extend ⟨_, e, rfl⟩ F.entry_list_extend (F.args_list_extend_2 _ _) (ext_tup l b its.toArray its2.toArray n n2 d2 sl2 (long its2 r2.length) (by rw [List.size_toArray]; omega) (by omega)) ⟨e, g1, ?_⟩
    exact ⟨.non, _, I.lset (its' := its ++ its2) hH e (by simp) (r.append r2) (by rw [List.length_append]; omega), rfl, q⟩
  · obtain ⟨its2, r2, pl, _⟩ := I.list hB
    obtain ⟨⟨c2, d2, da2, sl2⟩, n2, g1, g2, g3, g4⟩ := pl
    simp only at g2 g3 g4
    subst g2 g3 g4
    have dr := door its2 r2.length
    refine call_meets F.slot_list_extend ⟨_, e, rfl⟩ F.entry_list_extend (F.args_list_extend_2 _ _) (ext_lst l b its.toArray its2.toArray n n2 none sl2 (long its2 r2.length) (by rw [List.size_toArray]; omega) (by omega)) ⟨e, g1, ?_⟩
    exact ⟨.non, _, I.lset (its' := its ++ its2) hH e (by simp) (r.append r2) (by rw [List.length_append]; omega), rfl, q⟩
end
section
variable {X : Cx} {C : Cn} {e : Expr} {x : Str} {p1 apos cpos pos : Pos} {m : SS → O D}
def itemsOf : D → Option (List D)
  | .tup xs => some xs
  | .lst xs => some xs
  | _ => none
def sExt (i : Nat) (m : SS → O D) : SS → O D := fun σ => match curL σ i with
  | some _ => (m σ).bind fun d σ1 => match curL σ1 i, itemsOf d with
    | some ds, some xs => if ds.length + xs.length ≤ LIM then .ok .non (put1 σ1 i (.lst (ds ++ xs))) else .bad
    | _, _ => .bad
  | none => .bad
theorem me_extend (i : Nat) (hK : X.K = C.K) (hN : X.N[i]? = some x) (hv : Vis X.env.scope x) (h : ME X C e m) (hd : (x == ("__debug__" : Str)) = false := by decide) (hcd : (x == ("__classdict__" : Str)) = false := by decide)
    (hbase : attributeBase (.Name x p1) "extend" X.env (eval (.Name x p1) X.env) = eval (.Name x p1) X.env := by rfl)
    (hfew : ((backTo cpos (starEach [e] X.env)).all (fun x => !x.1) && (backToKw cpos (keywordEach [] X.env)).all (fun x => x.1.isSome) && decide ([e].length + ([] : List Keyword).length + (if ([] : List Keyword).isEmpty then 0 else 1) < 30)) = true := by rfl)
    (hline : (apos.endLine == cpos.line) = true := by rfl) (hs : starEach [e] X.env = (false, eval e X.env) :: starEach [] X.env := by rfl) (hplain : (backTo cpos (starEach [] X.env)).any (·.1) = false := by rfl) :
    ME X C (.Call (.Attribute (.Name x p1) "extend" apos) [e] [] cpos) (sExt i m) := by
  refine ⟨fun E W tk => (pe_bm (X := X.wish E) PySem.F.plainAttrs_list PySem.F.slot_list_extend PySem.F.type_list_extend mt_extAny (pv i hN hv hd hcd) (pa_cons (h.pe E W tk) pa_nil hs) hbase hfew hline hs hplain).imp fun τ H Q ⟨G, σ, sr, p⟩ => ?_⟩
  unfold sExt at p
  split at p
  · rename_i ds0 e0
    obtain ⟨a, vs0, ev, ha, _⟩ := sr.curL e0
    refine ⟨_, ev, lst_ty ha, ?_⟩
    refine (tG_bind (R := fun _ => Rp C) (f := fun d σ1 => match curL σ1 i, itemsOf d with
      | some ds, some xs => if ds.length + xs.length ≤ LIM then .ok D.non (put1 σ1 i (.lst (ds ++ xs))) else .bad
      | _, _ => .bad) ⟨G, σ, sr, p⟩).mono fun y H1 ⟨d, r, f, G1, σ1, s1, p1⟩ => ?_
    dsimp only at p1
    split at p1
    · rename_i ds xs e1 e2
      split at p1
      · rename_i hl
        obtain ⟨a', vs, ev', ha', rl, wr⟩ := s1.curL e1
        rw [ev] at ev'; cases ev'
        have got : ∃ b zs, y = .ref b ∧ (SqT X.K H1 b zs ∨ SqL X.K H1 b zs) ∧ RpL C H1 xs zs := by
          unfold itemsOf at e2
          split at e2
          · cases e2
            obtain ⟨b, zs, rfl, s, rz⟩ := r.rb.tup
            exact ⟨b, zs, rfl, .inl (hK ▸ s), rz⟩
          · cases e2
            obtain ⟨b, zs, rfl, s, rz⟩ := r.rb.lst
            exact ⟨b, zs, rfl, .inr (hK ▸ s), rz⟩
          · cases e2
        obtain ⟨b, zs, rfl, sq, rz⟩ := got
        obtain ⟨fx, s2⟩ := wr (ds ++ xs) (vs ++ zs) (rl.append rz)
        exact ⟨a, b, vs, zs, rfl, rfl, ha', sq, by rw [rl.length, rz.length, LIM_eq]; exact hl, p1 _ _ .n s2 fx⟩
      · exact p1.elim
    · exact p1.elim
  · exact p.elim
/-- a < b < c -/
theorem me_chain {a b c : Expr} {f g : D → D → Option D} {op op' : CmpOp} {ma mb mc : SS → O Hd} (ho : ∀ E, OpR (X.wish E) (compareOp op) (rD C f)) (ho' : ∀ E, OpR (X.wish E) (compareOp op') (rD C g)) (ha : MH X C a ma) (hb : MH X C b mb) (hc : MH X C c mc)
    (hm : lastMarks [op, op'] [b, c] = false := by with_unfolding_all rfl) : ME X C (.Compare a [op, op'] [b, c] pos) (sChain f g ma mb mc) := by
  refine ⟨fun E W tk => (pe_chain (ho E) (ho' E) (ha.pe E W tk) (hb.pe E W tk) (hc.pe E W tk) hm).imp fun τ H Q q => ?_⟩
  refine (tG_bind (R := RH C) q).mono fun x H1 ⟨h1, r1, f1, q1⟩ => ?_
  refine (tG_bind (R := RH C) q1).mono fun y H2 ⟨h2, r2, f2, G, σ, sr, p⟩ => ?_
  dsimp only at p
  split at p
  · rename_i d1 d2 e1 e2
    split at p
    · rename_i e
      refine ⟨d1, d2, _, sr.res (r1.fx f2) e1, sr.res r2 e2, e, fun z H3 s3 rz => ⟨true, rz.rb.bl, iteT ?_⟩⟩
      have k : tE C W (fun σ => (mc σ).bind fun h3 σ3 => match res σ3 h2, res σ3 h3 with
        | some y', some z => ofOpt (g y' z) σ3
        | _, _ => .bad) τ H3 Q := ⟨G, σ, sr.same s3, PostG.fx p (.of_same s3)⟩
      refine (tG_bind (R := RH C) k).mono fun w H4 ⟨h3, r3, f4, G2, σ2, sr2, p2⟩ => ?_
      dsimp only at p2
      split at p2
      · rename_i d2' d3 e3 e4
        cases e5 : g d2' d3 with
        | none => rw [e5] at p2; exact p2.elim
        | some d =>
          rw [e5] at p2
          exact ⟨d2', d3, d, sr2.res ((r2.fx (.of_same s3)).fx f4) e3, sr2.res r3 e4, e5, fun r H' s q => p2 r H' q (sr2.same s) (.of_same s)⟩
      · exact p2.elim
    · rename_i e
      exact ⟨d1, d2, _, sr.res (r1.fx f2) e1, sr.res r2 e2, e, fun z H3 s3 rz => ⟨false, rz.rb.bl, iteF (p _ H3 .b (sr.same s3) (.of_same s3))⟩⟩
    · exact p.elim
  · exact p.elim
end
end TL

set_option Elab.async false
set_option linter.all false
set_option maxRecDepth 100000
set_option maxHeartbeats 4000000
/-! TL21: lambdas without parameters that are handed to a def. -/
namespace TL
open PySem PySem.Spec PyProof.Rows L2
/-- what a lambda does when it is called -/
inductive TR where
  | ok (d : D) | ex (x : Ex) | bad
mutual
def noLam : D → Bool
  | .lam _ => false
  | .tup ds => noLamL ds
  | .lst ds => noLamL ds
  | .exc _ d => noLam d
  | .err _ d => noLam d
  | _ => true
def noLamL : List D → Bool
  | [] => true
  | d :: ds => noLam d && noLamL ds
end
/-- the constants with this lambda -/
def Cn.lam (C : Cn) (la lc : Addr) (lq : Str) (lv : List V) : Cn := { C with la := la, lc := lc, lq := lq, lv := lv }
section
variable {C : Cn} {H : Hp} {la lc : Addr} {lq : Str} {lv : List V}
mutual
theorem rp_lam : ∀ {d : D} {v : V}, noLam d = true → (Rp (C.lam la lc lq lv) H d v ↔ Rp C H d v)
  | .non, _, _ | .bl _, _, _ | .int _, _, _ | .str _, _, _ | .cls _, _, _ | .fn _ _, _, _ => by simp only [Rp]; try exact Iff.rfl
  | .tup ds, v, h => by
    simp only [noLam] at h
    simp only [Rp]
    exact exists_congr fun a => exists_congr fun vs => and_congr Iff.rfl (and_congr Iff.rfl (rpL_lam h))
  | .lst ds, v, h => by
    simp only [noLam] at h
    simp only [Rp]
    exact exists_congr fun a => exists_congr fun vs => and_congr Iff.rfl (and_congr Iff.rfl (rpL_lam h))
  | .exc c d, v, h => by
    simp only [noLam] at h
    simp only [Rp]
    exact exists_congr fun a => exists_congr fun dd => exists_congr fun x => exists_congr fun fs => and_congr Iff.rfl (and_congr Iff.rfl (and_congr Iff.rfl (and_congr Iff.rfl (rp_lam h))))
  | .err c d, v, h => by
    simp only [noLam] at h
    simp only [Rp]
    exact exists_congr fun a => exists_congr fun dd => exists_congr fun t => exists_congr fun x => exists_congr fun fs => and_congr Iff.rfl (and_congr Iff.rfl (and_congr Iff.rfl (and_congr Iff.rfl (and_congr Iff.rfl (rp_lam h)))))
  | .lam _, _, h => by simp [noLam] at h
theorem rpL_lam : ∀ {ds : List D} {vs : List V}, noLamL ds = true → (RpL (C.lam la lc lq lv) H ds vs ↔ RpL C H ds vs)
  | [], _, _ => by simp only [RpL]
  | d :: ds, vs, h => by
    simp only [noLamL, Bool.and_eq_true] at h
    simp only [RpL]
    exact exists_congr fun v => exists_congr fun r => and_congr Iff.rfl (and_congr (rp_lam h.1) (rpL_lam h.2))
end
end
/-! ### the captured values -/
def putC (σ : SS) : List Nat → List D → SS
  | i :: is, d :: ds => (putC σ is ds).set i (some (.val d))
  | _, _ => σ
def capsOf (σ : SS) : List Nat → Option (List D)
  | [] => some []
  | i :: is => match σ[i]?, capsOf σ is with
    | some (some (.val d)), some ds => some (d :: ds)
    | _, _ => none
inductive CapV (τ : L2.St) : List Nat → List V → Prop
  | nil : CapV τ [] []
  | cons {i : Nat} {is : List Nat} {v : V} {vs : List V} (h : τ[i]? = some (some v)) (t : CapV τ is vs) : CapV τ (i :: is) (v :: vs)
section
variable {C : Cn} {G : Gh} {H H' : Hp} {σ : SS} {τ : L2.St}
/-- a frame of which nothing is known; all that stands is to stay -/
theorem sr_none (tb : LamX.Tabs C.T H) : SR C ⟨fun a => (H a).filter notTbl, fun _ => 0⟩ H (List.replicate τ.length none) τ := by
  refine ⟨by simp, fun a o e => (Option.filter_eq_some_iff.mp e).1, fun a o e => (Option.filter_eq_some_iff.mp e).2, tb, fun _ => [], fun i sd e => ?_, fun _ _ _ _ h _ => absurd h (by simp), fun _ _ h => absurd h (by simp), fun _ _ => rfl⟩
  rw [List.getElem?_replicate] at e
  split at e <;> cases e
theorem sr_put {s : SS} (sr : SR C G H s τ) : ∀ {is : List Nat} {ds : List D} {vs : List V}, CapV τ is vs → RpL C H ds vs → SR C G H (putC s is ds) τ
  | _, [], _, .nil, _ => sr
  | _, _ :: _, _, .nil, h => by simp only [RpL] at h; obtain ⟨_, _, e, _⟩ := h; cases e
  | _, [], _, .cons _ _, h => by simp only [RpL] at h; cases h
  | _, d :: ds, _, .cons (i := i) (v := v) hi t, h => by
    simp only [RpL] at h
    obtain ⟨w, r, e, h1, h2⟩ := h
    cases e
    have z := (sr_put sr t h2).setVal (i := i) h1
    have e2 : τ.set i (some v) = τ := by
      obtain ⟨hl, e⟩ := List.getElem?_eq_some_iff.mp hi
      rw [← e]; exact List.set_getElem_self hl
    rw [e2] at z
    exact z
theorem caps_ok (sr : SR C G H σ τ) : ∀ {is : List Nat} {ds : List D}, capsOf σ is = some ds → ∃ vs, CapV τ is vs ∧ RpL C H ds vs
  | [], ds, e => by cases e; exact ⟨[], .nil, .nil⟩
  | i :: is, ds, e => by
    unfold capsOf at e
    split at e
    · rename_i d ds' e1 e2
      cases e
      obtain ⟨vs, c, r⟩ := caps_ok sr e2
      obtain ⟨v, F, e3, r1, _⟩ := sr.at e1
      exact ⟨v :: vs, .cons e3 c, .cons r1 r⟩
    · cases e
/-- what stood stays, but for the tables -/
theorem SR.keepN (h : SR C G H σ τ) (f : Fx C.T H H') (k : ∀ a o, H a = some o → notTbl o = true → H' a = some o) : SR C G H' σ τ := by
  obtain ⟨l, g, nt, tb, F, h1, h2, h3, h4⟩ := h
  refine ⟨l, fun a o e => k a o (g a o e) (nt a o e), nt, f.2 tb, F, fun i sd e => ?_, h2, h3, h4⟩
  obtain ⟨v, e1, r⟩ := h1 i sd e
  refine ⟨v, e1, r.keep f fun a ha => ?_⟩
  obtain ⟨o, q, _⟩ := r.there ha
  rw [q, k a o q (r.nt ha q)]
end
/-- deed() in the def that got the lambda -/
def sThunk (i : Nat) (δ : List D → TR) : SS → O D := fun σ => match σ[i]? with
  | some (some (.val (.lam cap))) => match δ cap with
    | .ok d => .ok d σ
    | .ex x => .ex x σ
    | .bad => .bad
  | _ => .bad
/-- the lambda's body over the captured values -/
def lamRes (n : Nat) (caps : List Nat) (m : SS → O D) : List D → TR := fun cap => if noLamL cap then match m (putC (List.replicate n none) caps cap) with
  | .ok d _ => if noLam d then .ok d else .bad
  | .ex x _ => if noLam x.d then .ex x else .bad
  | .bad => .bad else .bad
section
variable {X : Cx} {C : Cn} {pins : List (Addr × Obj)} {τ : L2.St} {H : Hp} {s : Shared}
theorem me_thunk {CXg : CXT} {Eg : XK} {Ng : List Str} {qg : Str} {sg : Scope} {g f c' : Addr} {cdg pm ctv : Value} {params : Arguments} {body : Expr} {scope : Scope} {k i : Nat} {a : Str} {pn : List (Addr × Obj)} {m : SS → O D} {caps : List Nat} {lv : List V} {p1 p2 : Pos}
    (I : Inv X pins τ H s) (L : LamX.LamS X.env.scope scope) (hf : s.heap.get? f = some (PySem.W.kla_obj "<lambda>" (X.env.qual ++ "<lambda>") params body scope (cloFrom X.env.cells scope.names []) pm c' ctv)) (hfn : H f = none) (hfr : f ∉ frs X.stack)
    (hbind : bindArgs (PySem.W.kla_fn "<lambda>" (X.env.qual ++ "<lambda>") params body scope (cloFrom X.env.cells scope.names []) pm (.ref c') ctv) ⟨[], []⟩ = pure []) (hr : TRoom (k + 1) (X.A.deeper (envOfC qg sg s.heap.objs.size g cdg))) (hcap : CapV τ caps lv)
    (hbody : ∀ (A : Around) (outer : List Env) (s : Shared) (H : Hp) (E : XK), TRoom k (A.deeper (LamX.lamEnv X scope s.heap.objs.size f c')) → ME (LamX.lamCx X A outer s H E scope f c') C body m)
    (hN : Ng[i]? = some a) (hv : Vis sg a) (hd : (a == ("__debug__" : Str)) = false := by decide) (hcd : (a == ("__classdict__" : Str)) = false := by decide) :
    ME ((cxOf CXg X.prog X.w X.K X.mg X.base Ng qg sg g cdg X.A X.stack s H Eg).tr pn (cxOf CXg X.prog X.w X.K X.mg X.base Ng qg sg g cdg X.A X.stack s H Eg).xe) (C.lam f c' (X.env.qual ++ "<lambda>") lv) (.Call (.Name a p1) [] [] p2) (sThunk i (lamRes X.N.length caps m)) := by
  refine ⟨fun E W tk => ⟨fun pinsZ sZ τZ HZ Q IZ h => ?_⟩⟩
  obtain ⟨GZ, σZ, srZ, p⟩ := h
  unfold sThunk at p
  split at p
  · rename_i cap eslot
    obtain ⟨v0, F0, ev, rv0, _⟩ := srZ.at eslot
    simp only [Rp] at rv0
    obtain ⟨e0, hc, rcap⟩ := rv0
    subst e0
    have hlenτ : τ.length = X.N.length := I.len
    refine wpAny_Call_Name_kw (thn ((pe_var (pos := p1) (i := i) hN hv hd hcd).run pinsZ sZ τZ HZ (fun v H1 => v = .ref f ∧ H1 = HZ) IZ ⟨.ref f, ev, rfl, rfl⟩) fun u s1 ⟨v, H1, I1, r1, q1⟩ => ?_)
    obtain ⟨ev1, eH⟩ := q1
    subst ev1
    rw [eH] at I1
    obtain rfl : u = Value.ref f := r1
    have at1 := I1.base.keep f _ hf hfn hfr (fun z => nomatch (show f ∈ ([] : List Addr) from z))
    refine PySem.W.callWith_F0 ⟨_, _, _, _, at1⟩ ?_
    have un : Un (frs X.stack) [] H HZ s.heap s1.heap := I1.base
    obtain ⟨⟨oc, vs, t, hoc, hdc, hvc⟩, _, _⟩ := I1.hok c' _ hc
    -- what the lambda's body meets
    have tabs : LamX.Tabs C.T HZ := srZ.tabs
    have back : ∀ {σ' : SS} {H' : Hp}, SR C ⟨fun a => (HZ a).filter notTbl, fun _ => 0⟩ H' σ' τ → Fx C.T HZ H' → SR (C.lam f c' (X.env.qual ++ "<lambda>") lv) GZ H' σZ τZ := fun {σ' H'} sr fx => srZ.keepN fx fun a o e nt => sr.gr a o (Option.filter_eq_some_iff.mpr ⟨e, nt⟩)
    have pre : tE C (fun cls d _ H' => W cls d τZ H') m τ HZ Q := by
      cases hnl : noLamL cap with
      | false =>
        have e : lamRes X.N.length caps m cap = .bad := by unfold lamRes; rw [hnl]; rfl
        rw [e] at p; exact p.elim
      | true =>
        have start := sr_put (sr_none (τ := τ) tabs) hcap ((rpL_lam hnl).mp rcap)
        rw [hlenτ] at start
        refine ⟨_, _, start, ?_⟩
        cases em : m (putC (List.replicate X.N.length none) caps cap) with
        | bad =>
          have e : lamRes X.N.length caps m cap = .bad := by unfold lamRes; rw [hnl, em]; rfl
          rw [e] at p; exact p.elim
        | ok d σ' =>
          cases hn : noLam d with
          | false =>
            have e : lamRes X.N.length caps m cap = .bad := by unfold lamRes; rw [hnl, em]; simp [hn]
            rw [e] at p; exact p.elim
          | true =>
            have e : lamRes X.N.length caps m cap = .ok d := by unfold lamRes; rw [hnl, em]; simp [hn]
            rw [e] at p
            exact fun v H' rv sr fx => p v H' ((rp_lam hn).mpr rv) (back sr fx) fx
        | ex x σ' =>
          cases hn : noLam x.d with
          | false =>
            have e : lamRes X.N.length caps m cap = .bad := by unfold lamRes; rw [hnl, em]; simp [hn]
            rw [e] at p; exact p.elim
          | true =>
            have e : lamRes X.N.length caps m cap = .ex x := by unfold lamRes; rw [hnl, em]; simp [hn]
            rw [e] at p
            refine fun cls d H' rx sr fx => p cls d H' ?_ (back sr fx) fx
            obtain ⟨e1, dd, fs, v, e2, e3, e4, e5⟩ := rx
            exact ⟨e1, dd, fs, v, e2, e3, e4, (rp_lam hn).mpr e5⟩
    have dep : (X.A.deeper (envOfC qg sg s.heap.objs.size g cdg)).depth < recursionLimit := by have := hr.dp; omega
    have rc : codeAny (model X.prog X.w) (X.A.deeper (envOfC qg sg s.heap.objs.size g cdg)) (.call (.ref f) ⟨[], []⟩) (CR (L2.CX X.prog X.w) (envOfC qg sg s.heap.objs.size g cdg :: X.stack) X.prog X.w HZ s1 Q fun cls d H' => W cls d τZ H') s1 := by
      refine PySem.W.kla_callFunE dep at1 rfl L.co L.gen rfl ⟨c', oc, vs, t, rfl, hoc, hdc, hvc⟩ ?_
      rw [hbind]
      refine wpAny_pure (wpAny_newFunctionEnv (fun y hy => (L.own y hy).2) (fun y hy => absurd hy (by simp)) (fun h₁ hns hsb => ⟨I1.nolimit.fresh _ hsb, ?_⟩) L.kind)
      show codeAny _ _ (.expr body (LamX.lamEnv X scope s1.heap.objs.size f c')) _ _
      have kp : ∀ b o, s1.heap.get? b = some o → h₁.get? b = some o := fun b o e => hsb.extBut b o (Nat.ne_of_lt (Heap.lt_size e)) (Heap.get?_push_of_some _ e)
      have J := LamX.lam_start2 (E := fun cls d H' => W cls d τZ H') (f := f) (c' := c') (tk := s1.toks + ([] : List (Str × Value)).length) I L I1.env0 hr.hd un hns kp
      have tk2 : Takes (LamX.lamCx X (X.A.deeper (envOfC qg sg s.heap.objs.size g cdg)) (envOfC qg sg s.heap.objs.size g cdg :: X.stack) s1 HZ (fun cls d H' => W cls d τZ H') scope f c') (fun cls d _ H' => W cls d τZ H') := takes_of rfl rfl rfl rfl
      refine PySem.W.kla_codeExpr (wpAny_mono (((hbody _ _ s1 HZ (fun cls d H' => W cls d τZ H') (hr.deeper _)).pe _ _ tk2).run [] _ _ HZ Q J pre) (fun v s' hq => ?_) fun e s' hq => hq)
      obtain ⟨w', H', J', rv, q⟩ := hq
      exact ⟨w', H', J'.os, J'.bare, J'.base, J'.hok, rv, q⟩
    refine wpAny_call (codeAny_mono rc fun r s' hq => ?_)
    cases r with
    | error e => exact tk e s' (XE.of_call (X := ((cxOf CXg X.prog X.w X.K X.mg X.base Ng qg sg g cdg X.A X.stack s H Eg).tr pn (cxOf CXg X.prog X.w X.K X.mg X.base Ng qg sg g cdg X.A X.stack s H Eg).xe).wish E) I1 (fun cls d H' h => h) hq)
    | ok fl =>
      cases fl with
      | ret u => exact I1.after hq
      | next => exact False.elim hq
      | brk => exact False.elim hq
      | cont => exact False.elim hq
  · exact p.elim
end
/-- a def of the text, run at this very state -/
theorem run_at {P : Program} {w : World} {K : PySem.W.Frag} {mg : Str → Option Value} {base : Heap} {C : Cn} {k : Nat} {f : Addr} {name qual : Str} {params : Arguments} {body : List Stmt} {scope : Scope} {dV kV doc pm cdv ct oc : Value} {an od : Option Addr}
    {osl : Array (Option Value)} {N ps : List Str} {m : SS → OS} (lk : K.lookup f = some ⟨oc, od, .func (PySem.W.fnOf name qual params body scope dV kV doc pm an cdv ct), osl⟩) (hcd : PySem.W.codeIn K cdv qual = true) (S : FnScope N ps scope)
    {A : Around} {outer : List Env} {s : Shared} {H : Hp} {args : Args} {us : List Value} {vs : List V} {Q : VK} {E : XK} {as : List SD} {Ad : Nat → Addr} (hr : TRoom (k + 1) A) (e0 : Env0 P w K mg base A outer s H) (hb : BindsTo s (PySem.W.fnOf name qual params body scope dV kV doc pm an cdv ct) args (ps.zip us)) (r : Vals vs us)
    (hbody : ∀ E : XK, TRoom k (A.deeper (envOfC qual scope s.heap.objs.size f cdv)) → MSs (cxOf (CX P w) P w K mg base N qual scope f cdv A outer s H E) C body m) (ra : RArgs C H as vs Ad) (hla : as.length = ps.length)
    (hq : match runB N.length ps.length m as with
      | .bad => False
      | .ok d outs => ∀ v H', Rp C H' d v → RKeep C H H' as outs Ad → Q v H'
      | .okm m outs => ∀ a o H', H' a = some o → RM C H' m a → (∀ u, H a = some u → notTbl u = false) → RKeep C H H' as outs Ad → Q (.ref a) H'
      | .ex x outs => ∀ cls dd H', RX C H' x cls dd → RKeep C H H' as outs Ad → E cls dd H') : codeAny (model P w) A (.call (.ref f) args) (CR (CX P w) outer P w H s Q E) s := by
  have hpl : ps.length ≤ N.length := by have := congrArg List.length S.pre; rw [List.length_take] at this; omega
  have hl : vs.length = ps.length := ra.len.symm.trans hla
  have KX : K.In s.heap := e0.mod.kin.keeps fun b o e => (e0.bs b o e).1
  have lim : s.heap.NoLimit := e0.mod.nolimit.keeps fun b o e => (e0.bs b o e).1
  have hkind : ∀ y ∈ ps.zip us, scope.names.lookup y.1 = some .local ∨ (scope.names.lookup y.1 = some .cell ∧ ((cellsFrom (s.heap.objs.size + 1) scope.names []).lookup y.1).isSome = true) := fun ⟨n, v⟩ hy => by
    rcases S.par n (List.of_mem_zip hy).1 with q | q
    · exact .inl q
    · exact .inr ⟨q, PySem.W.cellsFrom_some _ _ _ (.inl q)⟩
  have hdep : A.depth < recursionLimit := by have := hr.dp; omega
  refine codeAny_call_function hdep (KX _ _ lk) rfl S.co S.gen rfl (PySem.W.codeRec_of KX hcd) (hb _ _ _ _ ?_)
  refine wpAny_newFunctionEnv_cells S.kind hkind fun env he s1 x => ?_
  subst he
  refine ⟨lim.keeps x.toInCall.keep, codeAny_func ?_⟩
  have hm := hbody E (hr.deeper _)
  have I : Inv (cxOf (CX P w) P w K mg base N qual scope f cdv A outer s H E) [] (L2.start N vs) H s1 := inv_start S hr.hd e0 hl r x
  have tk : Takes (cxOf (CX P w) P w K mg base N qual scope f cdv A outer s H E) (fun cls d _ H => E cls d H) := takes_of rfl rfl rfl rfl
  have pw : PassesOwn (model P w) (A.deeper (envOfC qual scope s.heap.objs.size f cdv)) (envOfC qual scope s.heap.objs.size f cdv) (cxOf (CX P w) P w K mg base N qual scope f cdv A outer s H E).xe := PassesOwn.leaving
  have sr := sr_start (N := N) ra rfl (by omega : as.length ≤ N.length)
  have go := (hm.ps _ _ tk pw).run [] s1 (L2.start N vs) H ⟨fun _ H' => Q .non H', Q, fun _ _ => False, fun _ _ => False⟩ I ⟨_, _, sr, by
    unfold runB at hq
    rw [if_pos hla] at hq
    cases e : m (startS N.length as) with
    | bad => rw [e] at hq; exact hq
    | bk σ => rw [e] at hq; exact hq.elim
    | ct σ => rw [e] at hq; exact hq.elim
    | nx σ =>
      rw [e] at hq
      dsimp only at hq
      intro τ' H' sr' fx
      cases e2 : outsAt σ 0 as with
      | none => rw [e2] at hq; exact hq.elim
      | some os => rw [e2] at hq; exact hq _ H' .n (sr_end sr' fx e2)
    | rt d σ =>
      rw [e] at hq
      dsimp only at hq
      intro v τ' H' rd sr' fx
      cases e2 : outsAt σ 0 as with
      | none => rw [e2] at hq; exact hq.elim
      | some os => rw [e2] at hq; exact hq v H' rd (sr_end sr' fx e2)
    | rtm m2 σ =>
      rw [e] at hq
      dsimp only at hq
      intro a o τ' H' ha rm n sr' fx
      cases e2 : outsAt σ 0 as with
      | none => rw [e2] at hq; exact hq.elim
      | some os => rw [e2] at hq; exact hq a o H' ha rm (sr_new sr' n e2) (sr_end (sr'.freeG n) fx e2)
    | ex x σ =>
      rw [e] at hq
      dsimp only at hq
      intro cls dd τ' H' rx sr' fx
      cases e2 : outsAt σ 0 as with
      | none => rw [e2] at hq; exact hq.elim
      | some os => rw [e2] at hq; exact hq cls dd H' rx (sr_end sr' fx e2)⟩
  refine wpAny_mono go (fun fl s' hs => ?_) fun e s' hs => hs
  have fin : ∀ {σ' : L2.St} {H' : Hp} {v : V} {u : Value}, Inv (cxOf (CX P w) P w K mg base N qual scope f cdv A outer s H E) [] σ' H' s' → RelV v u → Q v H' → CE outer P w H s Q u s' :=
    fun {σ' H' v u} J rv q => ⟨v, H', J.os, J.bare, J.base, J.hok, rv, q⟩
  cases fl with
  | ret u =>
    obtain ⟨v, σ', H', J, rv, q⟩ := hs
    exact fin J.unwish rv q
  | next =>
    obtain ⟨σ', H', J, q⟩ := hs
    exact fin (v := V.non) (u := Value.none) J.unwish rfl q
  | brk =>
    obtain ⟨_, _, _, q⟩ := hs
    exact False.elim q
  | cont =>
    obtain ⟨_, _, _, q⟩ := hs
    exact False.elim q
/-- g(lambda: e) -/
def sLam (n : Nat) (G : (List D → TR) → SS → OS) (δ : List D → TR) (caps : List Nat) : SS → O D := fun σ => match capsOf σ caps with
  | some cap => if noLamL cap then match runB n 1 (G δ) [.val (.lam cap)] with
    | .ok d _ => if noLam d then .ok d σ else .bad
    | .ex x _ => if noLam x.d then .ex x σ else .bad
    | _ => .bad else .bad
  | none => .bad
section
variable {X : Cx} {C : Cn}
theorem me_lam {x a : Str} {g c P : Addr} {k : Nat} {pg : Arguments} {bg : List Stmt} {sg : Scope} {dV kV doc pm cdv ct oc : Value} {an od : Option Addr} {osl : Array (Option Value)} {Ng : List Str} {params : Arguments} {body : Expr} {scope : Scope} {m : SS → O D} {caps : List Nat} {G : (List D → TR) → SS → OS} {p lpos pos : Pos}
    (hK : X.K = C.K) (hg : Gl X x) (hm : X.mg x = some (.ref g)) (hk : PySem.W.keepIn X.K (.ref g) = true) (lk : X.K.lookup g = some ⟨oc, od, .func (PySem.W.fnOf x x pg bg sg dV kV doc pm an cdv ct), osl⟩) (hcg : PySem.W.codeIn X.K cdv x = true) (hb : L2.Binds X.K (PySem.W.fnOf x x pg bg sg dV kV doc pm an cdv ct) [a] []) (Sg : FnScope Ng [a] sg) (hNg : Ng[0]? = some a) (hva : Vis sg a)
    (TB : LamX.TabB X.base X.mg c P) (hcode : X.env.code = .ref c) (hmT : (P, X.env.qual ++ "<lambda>") ∈ C.T) (hu : ∀ p ∈ C.T, p.1 = P → p.2 = X.env.qual ++ "<lambda>") (hr : TRoom (k + 2) X.A) (L : LamX.LamS X.env.scope scope) (hdef : defaultsOf params X.env = ([], []))
    (hbind : ∀ (q : Str) (cl : List (Str × Addr)) (pm cv ctv : Value), bindArgs (PySem.W.kla_fn "<lambda>" q params body scope cl pm cv ctv) ⟨[], []⟩ = pure [])
    (hbody : ∀ (A : Around) (outer : List Env) (s : Shared) (H : Hp) (E : XK) (f c' : Addr), TRoom k (A.deeper (LamX.lamEnv X scope s.heap.objs.size f c')) → ME (LamX.lamCx X A outer s H E scope f c') C body m)
    (hG : ∀ (f c' : Addr) (lv : List V) (s : Shared) (H : Hp) (E : XK), TRoom (k + 1) (X.A.deeper (envOfC x sg s.heap.objs.size g cdv)) →
      (∀ (pn : List (Addr × Obj)) (p1 p2 : Pos), ME ((cxOf (CX X.prog X.w) X.prog X.w X.K X.mg X.base Ng x sg g cdv X.A X.stack s H E).tr pn (cxOf (CX X.prog X.w) X.prog X.w X.K X.mg X.base Ng x sg g cdv X.A X.stack s H E).xe) (C.lam f c' (X.env.qual ++ "<lambda>") lv) (.Call (.Name a p1) [] [] p2) (sThunk 0 (lamRes X.N.length caps m))) →
      MSs (cxOf (CX X.prog X.w) X.prog X.w X.K X.mg X.base Ng x sg g cdv X.A X.stack s H E) (C.lam f c' (X.env.qual ++ "<lambda>") lv) bg (G (lamRes X.N.length caps m)))
    (hdb : (x == ("__debug__" : Str)) = false := by decide) (hd : (a == ("__debug__" : Str)) = false := by decide) (hcd : (a == ("__classdict__" : Str)) = false := by decide) :
    ME X C (.Call (.Name x p) [.Lambda params body scope lpos] [] pos) (sLam Ng.length G (lamRes X.N.length caps m) caps) := by
  refine ⟨fun E W tk => ⟨fun pins s τ H Q I h => ?_⟩⟩
  obtain ⟨G0, σ, sr, pq⟩ := h
  unfold sLam at pq
  split at pq
  · rename_i cap ecap
    split at pq
    · rename_i hnl
      obtain ⟨lv, hcv, rcap⟩ := caps_ok sr ecap
      refine wpAny_Call_Name_kw (ld_glob I hg hm ?_ hdb)
      refine PySem.W.callWith_K (h₀ := X.base) I.ok.mod.kin hk ?_ (by rfl) (by rfl)
      show wpAny _ _ (spliced ((false, eval (.Lambda params body scope lpos) X.env) :: backTo pos (starEach [] X.env))) _ _ s
      refine Calls.spliced_cons (LamX.lam_make2 (X := X.wish E) I TB hcode hmT hu sr.tabs hdef (L.has (X := X.wish E) I.ok) fun f c' pm' ctv H1 s' I1 eN T1 hf hfn hfr hco => ?_)
      refine Calls.spliced_nil ⟨I1.kIn, ?_⟩
      have fx : Fx C.T H H1 := ⟨fun b o e d => eN b o e fun ps z => (by rw [z] at d; cases d), fun _ => T1⟩
      · have sr1 : SR C G0 H1 σ τ := sr.keepN fx fun b o e nt => eN b o e fun ps z => (by rw [z] at nt; cases nt)
        have ra : RArgs (C.lam f c' (X.env.qual ++ "<lambda>") lv) H1 [.val (.lam cap)] [.ref f] (fun _ => 0) := by
          refine ⟨T1, rfl, fun j d e => ?_, fun j m e => ?_, fun j i m e => ?_, fun i j ⟨m, e⟩ _ _ => ?_⟩
          · cases j with
            | zero =>
              cases e
              refine ⟨_, rfl, ?_⟩
              simp only [Rp]
              exact ⟨rfl, hco, (rpL_lam hnl).mpr (rcap.fx fx)⟩
            | succ j => cases e
          · cases j with
            | zero => cases e
            | succ j => cases e
          · cases j with
            | zero => cases e
            | succ j => cases e
          · cases i with
            | zero => cases e
            | succ i => cases e
        have keep : ∀ {outs : List SD} {H' : Hp}, RKeep (C.lam f c' (X.env.qual ++ "<lambda>") lv) H1 H' [.val (.lam cap)] outs (fun _ => 0) → SR C G0 H' σ τ ∧ Fx C.T H H' := fun {outs H'} rk => by
          refine ⟨sr1.keepN rk.fx fun b o e nt => rk.old b o e nt fun j ⟨m, z⟩ => ?_, fx.trans rk.fx⟩
          cases j with
          | zero => cases z
          | succ j => cases z
        have rc : codeAny (model X.prog X.w) X.A (.call (.ref g) ⟨[.ref f], []⟩) (CR (CX X.prog X.w) X.stack X.prog X.w H1 s' Q fun cls d H' => W cls d τ H') s' := by
          refine run_at (us := [.ref f]) (vs := [.ref f]) (ps := [a]) (N := Ng) lk hcg Sg hr I1.env0 (hb s' [.ref f] I1.kIn rfl) (.cons rfl .nil) (fun E' hr' => hG f c' lv s' H1 E' hr' fun pn p1 p2 => me_thunk (X := X.wish E) I1 L hf hfn hfr (hbind _ _ _ _ _) hr' hcv (fun A outer s2 H2 E2 hr2 => hbody A outer s2 H2 E2 f c' hr2) hNg hva hd hcd) ra rfl ?_
          show match runB Ng.length 1 (G (lamRes X.N.length caps m)) [.val (.lam cap)] with
            | .bad => False
            | .ok d outs => ∀ v H', Rp (C.lam f c' (X.env.qual ++ "<lambda>") lv) H' d v → RKeep (C.lam f c' (X.env.qual ++ "<lambda>") lv) H1 H' [.val (.lam cap)] outs (fun _ => 0) → Q v H'
            | .okm m outs => _
            | .ex x outs => ∀ cls dd H', RX (C.lam f c' (X.env.qual ++ "<lambda>") lv) H' x cls dd → RKeep (C.lam f c' (X.env.qual ++ "<lambda>") lv) H1 H' [.val (.lam cap)] outs (fun _ => 0) → W cls dd τ H'
          cases er : runB Ng.length 1 (G (lamRes X.N.length caps m)) [.val (.lam cap)] with
          | bad => rw [er] at pq; exact pq
          | okm m2 outs => rw [er] at pq; exact pq.elim
          | ok d outs =>
            rw [er] at pq
            dsimp only at pq
            cases hn : noLam d with
            | false => rw [hn] at pq; exact pq.elim
            | true =>
              rw [hn] at pq
              exact fun v H' rv rk => pq v H' ((rp_lam hn).mp rv) (keep rk).1 (keep rk).2
          | ex y outs =>
            rw [er] at pq
            dsimp only at pq
            cases hn : noLam y.d with
            | false => rw [hn] at pq; exact pq.elim
            | true =>
              rw [hn] at pq
              refine fun cls dd H' rx rk => pq cls dd H' ?_ (keep rk).1 (keep rk).2
              obtain ⟨e1, d2, fs, v, e2, e3, e4, e5⟩ := rx
              exact ⟨e1, d2, fs, v, e2, e3, e4, (rp_lam hn).mp e5⟩
        refine wpAny_call (codeAny_mono rc fun r s2 hq => ?_)
        cases r with
        | error e => exact tk e s2 (XE.of_call (X := X.wish E) I1 (fun cls d H' h => h) hq)
        | ok fl =>
          cases fl with
          | ret u => exact I1.after hq
          | next => exact False.elim hq
          | brk => exact False.elim hq
          | cont => exact False.elim hq
    · exact pq.elim
  · exact pq.elim
end
end TL

set_option Elab.async false
set_option linter.all false
set_option maxRecDepth 100000
set_option maxHeartbeats 4000000
/-! TL22: the law's own call where tables of code objects stand (laws with lambdas). -/
namespace TL
open PySem PySem.Spec PyProof.Rows L2
section
variable {P : Program} {w : World} {K : PySem.W.Frag} {mg mb : Str → Option Value} {C : Cn} {k : Nat} {fa a : Addr} {fd : FuncData} {x : Str} {F : FT} {s1 : Shared} {vs : List Value} {ns : List Int} {cs : List (Addr × Addr)}
theorem tab_run {H : Hp} (hCT : ∀ p ∈ C.T, ∃ c, (c, p.1) ∈ cs) (KX : K.In s1.heap) (g1 : s1.heap.Ns mainGlobals mg) (g2 : s1.heap.Ns builtinsNs mb) (g3 : ∀ x : Str, x ≠ "__name__" → mb x = bootBuiltins x) (lim : s1.heap.NoLimit) (gen : s1.gens = #[])
    (tT : ∀ p ∈ cs, s1.heap.get? p.2 = some { cls := .none, data := .fields #[] }) (tK : ∀ p ∈ cs, K.lookup p.2 = none) (tC : ∀ p ∈ cs, PySem.W.CodeHd s1.heap p.1 p.2)
    (bmod : ∃ (bm : Addr) (ob : Obj), mg "__builtins__" = some (.ref bm) ∧ bm ≠ builtinsNs ∧ s1.heap.get? bm = some ob ∧ ob.cls = .type "module" ∧ ob.dict = some builtinsNs ∧ ob.data = .plain)
    (at_ : s1.heap.get? a = some { cls := .type "list", data := .seq vs.toArray }) (room : TRoom k callerA) (fn : ∀ base : Heap, K.In base → base.Ns mainGlobals mg → (∀ p ∈ cs, LamX.TabB base mg p.1 p.2) → FnT P w K mg base C k fa fd [x] F) (bind : ∀ (s : Shared) (u : Value), BindsTo s fd ⟨[u], []⟩ [(x, u)])
    (hF : ∃ outs, F [.val (.lst (ns.map D.int))] = .ok (.bl true) outs) (hS : Rp C H (.lst (ns.map D.int)) (.ref a)) (hH : ∀ p ∈ cs, H p.2 = some (.tbl #[])) (hO : ∀ b u, H b = some u → b ∈ cs.map (·.2) ∨ ∃ o xs, u = .frz o (.lst xs)) (hA : ∀ b, H b ≠ none → b = a ∨ b ∈ cs.map (·.2)) (hN : H a ≠ none → K.lookup a = none) (hok : HOk P w H s1.heap) :
    codeAny (model P w) callerA (.call (.ref fa) ⟨[.ref a], []⟩) (fun r s' => r = .ok (.ret (.bool true)) ∧ OldK s1.heap s'.heap ∧ s'.os = s1.os ∧ AllBare s'.gens) s1 := by
  have low : ∀ {b : Addr} {o : Obj}, s1.heap.get? b = some o → H b = none → (hidT s1.heap H).get? b = some o := fun e n => hidT_get e n
  have tab : ∀ b, b ∈ cs.map (·.2) → s1.heap.get? b = some { cls := .none, data := .fields #[] } := fun b hb => by
    obtain ⟨p, hp, e⟩ := List.mem_map.mp hb
    rw [← e]; exact tT p hp
  -- neither the script nor a table: nobody's
  have free : ∀ {b : Addr} {o : Obj}, s1.heap.get? b = some o → (∀ vs n, o.data ≠ .seq vs n) → o.data ≠ .fields #[] → H b = none := fun {b o} e h1 h2 => by
    cases q : H b with
    | none => rfl
    | some u =>
      rcases hA b (by rw [q]; simp) with z | z
      · rw [z, at_] at e; cases e; exact (h1 _ _ rfl).elim
      · rw [tab b z] at e; cases e; exact (h2 rfl).elim
  have nsK : ∀ {b : Addr} {m : Str → Option Value}, s1.heap.Ns b m → (hidT s1.heap H).Ns b m := fun {b m} ⟨o, es, ep, e, d, r⟩ => ⟨o, es, ep, low e (free e (fun vs n z => by rw [d] at z; cases z) fun z => by rw [d] at z; cases z), d, r⟩
  have inK : K.In (hidT s1.heap H) := fun b o e => low (KX b o e) (by
    cases q : H b with
    | none => rfl
    | some u =>
      rcases hA b (by rw [q]; simp) with z | z
      · rw [z] at e q; rw [hN (by rw [q]; simp)] at e; cases e
      · obtain ⟨p, hp, ep⟩ := List.mem_map.mp z
        rw [← ep, tK p hp] at e; cases e)
  have md : Mod K mg (hidT s1.heap H) := ⟨inK, nsK g1, ⟨mb, nsK g2, g3⟩, let ⟨mc, h1, h2⟩ := lim; ⟨mc, nsK h1, h2⟩⟩
  have TB : ∀ p ∈ cs, LamX.TabB (hidT s1.heap H) mg p.1 p.2 := fun p hp => by
    have tp := tT p hp
    refine ⟨?_, ?_, fun z => ?_⟩
    · obtain ⟨o, us, file, tf, flags, tg, inF, text, tt, e1, r1, r2, r3, r4, r5, r6, r7, r8, hne⟩ := tC p hp
      exact ⟨o, us, file, tf, flags, tg, inF, text, tt, low e1 (free e1 (fun vs n z => by rw [r2] at z; cases z) fun z => by rw [r2] at z; cases z; simp at r3), r1, r2, r3, r4, r5, r6, r7, r8, hne⟩
    · obtain ⟨bm, ob, b1, b2, b3, b4, b5, b6⟩ := bmod
      have nG : bm ≠ mainGlobals := fun q => by
        obtain ⟨o, es, ep, e, hd, _⟩ := g1
        rw [q, e] at b3; cases b3; rw [hd] at b6; cases b6
      have nP : bm ≠ p.2 := fun q => by rw [q, tp] at b3; cases b3; cases b6
      exact ⟨bm, ob, b1, b2, nG, nP, low b3 (free b3 (fun vs n z => by rw [b6] at z; cases z) fun z => by rw [b6] at z; cases z), b4, b5, b6⟩
    · obtain ⟨o, es, ep, e, hd, _⟩ := g1
      rw [z, tp] at e; cases e; cases hd
  have e0 : Env0 P w K mg (hidT s1.heap H) callerA [] s1 H := ⟨rfl, md, fun b o e => of_hidT e, Nat.le_of_eq (hidT_size _ _), trivial, fun b hb => absurd (show b ∈ ([] : List Addr) from hb) (by simp), hok, .of_eq gen⟩
  obtain ⟨outs, eF⟩ := hF
  have args : RArgs C H [.val (.lst (ns.map D.int))] [.ref a] (fun _ => 0) := by
    refine ⟨fun p hp => ?_, rfl, fun j d e => ?_, fun j m e => ?_, fun j i m e => ?_, fun i j ⟨m, e⟩ _ _ => ?_⟩
    · obtain ⟨c, hc⟩ := hCT p hp
      exact LamX.TabS.nil (hH _ hc)
    · cases j with
      | zero => cases e; exact ⟨_, rfl, hS⟩
      | succ j => cases e
    · cases j with
      | zero => cases e
      | succ j => cases e
    · cases j with
      | zero => cases e
      | succ j => cases e
    · cases i with
      | zero => cases e
      | succ i => cases e
  refine codeAny_mono ((fn _ inK (nsK g1) TB).run callerA [] s1 H ⟨[.ref a], []⟩ [.ref a] [.ref a] (fun v _ => v = .bl true) (fun _ _ _ => False) room e0 (bind s1 (.ref a)) (.cons rfl .nil) ⟨_, _, args, by rw [eF]; exact fun v H' rv _ => rv.rb.bl⟩) fun r s' h => ?_
  cases r with
  | error e => obtain ⟨_, _, _, _, _, _, _, _, _, _, _, _, z⟩ := h; exact z.elim
  | ok fl =>
    cases fl with
    | next => exact False.elim h
    | brk => exact False.elim h
    | cont => exact False.elim h
    | ret u =>
      obtain ⟨v, H', os, bare, un, hok', rv, q⟩ := h
      subst q
      obtain rfl : u = Value.bool true := rv
      have same : ∀ b o, b ∉ cs.map (·.2) → s1.heap.get? b = some o → s'.heap.get? b = some o := fun b o nb e => by
        cases q : H b with
        | none => exact un.keep b o e q (fun z => absurd (show b ∈ ([] : List Addr) from z) (by simp)) (by simp)
        | some u =>
          rcases hO b u q with z | ⟨ob, xs, rfl⟩
          · exact absurd z nb
          · obtain ⟨e1, _⟩ := hok b _ q
            obtain ⟨e2, _⟩ := hok' b _ (un.frzs b ob _ q)
            rw [e] at e1; cases e1
            exact e2
      have grown : ∀ p ∈ cs, ∃ more : Array Value, s'.heap.get? p.2 = some { cls := .none, data := .fields more } := fun p hp => by
        obtain ⟨more, z⟩ := un.tbls p.2 #[] (hH p hp)
        exact ⟨_, hok' p.2 _ z⟩
      refine ⟨rfl, ⟨fun b o e => ?_, fun b o e => ?_⟩, os, bare⟩
      · by_cases hb : b ∈ cs.map (·.2)
        · obtain ⟨p, hp, ep⟩ := List.mem_map.mp hb
          obtain ⟨more, hm⟩ := grown p hp
          rw [← ep] at e ⊢
          rw [tT p hp] at e; cases e
          exact .inr (.inl ⟨((tC p hp).tab (tT p hp)).isCodeTable, rfl, #[], more, rfl, by rw [Array.empty_append]; exact hm⟩)
        · exact .inl (same b o hb e)
      · by_cases hb : b ∈ cs.map (·.2)
        · obtain ⟨p, hp, ep⟩ := List.mem_map.mp hb
          obtain ⟨more, hm⟩ := grown p hp
          rw [← ep]; exact ⟨_, hm⟩
        · exact ⟨o, same b o hb e⟩
theorem tab_call (hCK : C.K = K) (hCT : ∀ p ∈ C.T, ∃ c, (c, p.1) ∈ cs) (KX : K.In s1.heap) (g1 : s1.heap.Ns mainGlobals mg) (g2 : s1.heap.Ns builtinsNs mb) (g3 : ∀ x : Str, x ≠ "__name__" → mb x = bootBuiltins x) (lim : s1.heap.NoLimit) (gen : s1.gens = #[])
    (tT : ∀ p ∈ cs, s1.heap.get? p.2 = some { cls := .none, data := .fields #[] }) (tK : ∀ p ∈ cs, K.lookup p.2 = none) (tC : ∀ p ∈ cs, PySem.W.CodeHd s1.heap p.1 p.2)
    (bmod : ∃ (bm : Addr) (ob : Obj), mg "__builtins__" = some (.ref bm) ∧ bm ≠ builtinsNs ∧ s1.heap.get? bm = some ob ∧ ob.cls = .type "module" ∧ ob.dict = some builtinsNs ∧ ob.data = .plain)
    (at_ : s1.heap.get? a = some { cls := .type "list", data := .seq vs.toArray }) (hi : IntsAre vs ns) (hl : ns.length ≤ sizeLine) (room : TRoom k callerA) (fn : ∀ base : Heap, K.In base → base.Ns mainGlobals mg → (∀ p ∈ cs, LamX.TabB base mg p.1 p.2) → FnT P w K mg base C k fa fd [x] F) (bind : ∀ (s : Shared) (u : Value), BindsTo s fd ⟨[u], []⟩ [(x, u)])
    (hF : ∃ outs, F [.val (.lst (ns.map D.int))] = .ok (.bl true) outs) :
    codeAny (model P w) callerA (.call (.ref fa) ⟨[.ref a], []⟩) (fun r s' => r = .ok (.ret (.bool true)) ∧ OldK s1.heap s'.heap ∧ s'.os = s1.os ∧ AllBare s'.gens) s1 := by
  have rv := vals_ints hi
  have memT : ∀ p ∈ cs, p.2 ∈ cs.map (·.2) := fun p hp => List.mem_map.mpr ⟨p, hp, rfl⟩
  have aT : a ∉ cs.map (·.2) := fun z => by
    obtain ⟨p, hp, e⟩ := List.mem_map.mp z
    have q := tT p hp
    rw [e, at_] at q
    have q' : Data.seq vs.toArray _ = Data.fields #[] := congrArg Obj.data (Option.some.inj q)
    cases q'
  have isT : ∀ b, b ∈ cs.map (·.2) → s1.heap.get? b = some { cls := .none, data := .fields #[] } := fun b hb => by
    obtain ⟨p, hp, e⟩ := List.mem_map.mp hb
    rw [← e]; exact tT p hp
  cases hk : K.lookup a with
  | some o =>
    have e := KX a o hk
    rw [at_] at e; cases e
    refine tab_run (H := fun b => if b ∈ cs.map (·.2) then some (.tbl #[]) else none) hCT KX g1 g2 g3 lim gen tT tK tC bmod at_ room fn bind hF ?_ (fun p hp => if_pos (memT p hp)) (fun b u z => ?_) (fun b z => ?_) (fun z => absurd (if_neg aT) z) (fun b u z => ?_)
    · simp only [Rp]
      exact ⟨a, _, rfl, .inr ⟨_, vs.toArray, _, by rw [hCK]; exact hk, rfl, rfl, rfl, by rw [List.size_toArray, hi.length]; exact hl, by simpa using rv⟩, ints_rp ns⟩
    · by_cases hb : b ∈ cs.map (·.2)
      · exact .inl hb
      · have z' := (if_neg hb).symm.trans z; cases z'
    · by_cases hb : b ∈ cs.map (·.2)
      · exact .inr hb
      · exact absurd (if_neg hb) z
    · by_cases hb : b ∈ cs.map (·.2)
      · have z' := (if_pos hb).symm.trans z
        cases z'
        exact isT b hb
      · have z' := (if_neg hb).symm.trans z; cases z'
  | none =>
    refine tab_run (H := fun b => if b = a then some (.frz { cls := .type "list", data := .seq vs.toArray } (.lst (ns.map V.int))) else if b ∈ cs.map (·.2) then some (.tbl #[]) else none) hCT KX g1 g2 g3 lim gen tT tK tC bmod at_ room fn bind hF ?_ (fun p hp => ?_) (fun b u z => ?_) (fun b z => ?_) (fun _ => hk) (fun b u z => ?_)
    · simp only [Rp]
      exact ⟨a, _, rfl, .inl ⟨_, if_pos rfl⟩, ints_rp ns⟩
    · exact (if_neg (fun z => aT (by rw [← z]; exact memT p hp))).trans (if_pos (memT p hp))
    · by_cases ha : b = a
      · have z' := (if_pos ha).symm.trans z; cases z'; exact .inr ⟨_, _, rfl⟩
      · by_cases hb : b ∈ cs.map (·.2)
        · exact .inl hb
        · have z' := ((if_neg ha).trans (if_neg hb)).symm.trans z; cases z'
    · by_cases ha : b = a
      · exact .inl ha
      · by_cases hb : b ∈ cs.map (·.2)
        · exact .inr hb
        · exact absurd ((if_neg ha).trans (if_neg hb)) z
    · by_cases ha : b = a
      · have z' := (if_pos ha).symm.trans z
        cases z'
        rw [ha]
        exact ⟨at_, by rw [List.length_map]; exact hl, vs, _, rv, at_⟩
      · by_cases hb : b ∈ cs.map (·.2)
        · have z' := ((if_neg ha).trans (if_pos hb)).symm.trans z
          cases z'
          exact isT b hb
        · have z' := ((if_neg ha).trans (if_neg hb)).symm.trans z; cases z'
/-- the goal that the head leaves, where tables stand -/
theorem walk_T2 {l : PySem.W.OpenLaw} {n k : Nat} {q : Program} {loose : List Str} {XP : (Str → Option Value) → Heap → Prop} {YP : World → Heap → Prop} {d : DefRec} {K : Params → PySem.W.Frag} {F : FT} {x : Str}
    (hn : l.most = some n) (hn2 : n ≤ sizeLine) (hdf : d.params.defaults = []) (room : TRoom k callerA) (hY : ∀ (w : World) (h : Heap), YP w h → (K w.params).In h)
    (fn : ∀ (w : World) (mg : Str → Option Value) (fa : Addr) (h : Heap), YP w h → (K w.params).In h → h.Ns mainGlobals mg → mg d.name = some (.ref fa) →
      ∃ (C : Cn) (fd : FuncData) (cs : List (Addr × Addr)), C.K = K w.params ∧ (∀ p ∈ C.T, ∃ c, (c, p.1) ∈ cs) ∧ (∀ p ∈ cs, h.get? p.2 = some { cls := .none, data := .fields #[] }) ∧ (∀ p ∈ cs, (K w.params).lookup p.2 = none) ∧ (∀ p ∈ cs, PySem.W.CodeHd h p.1 p.2) ∧
        (∀ (s : Shared) (u : Value), BindsTo s fd ⟨[u], []⟩ [(x, u)]) ∧ ∀ base : Heap, (K w.params).In base → base.Ns mainGlobals mg → (∀ p ∈ cs, LamX.TabB base mg p.1 p.2) → FnT l.prog w (K w.params) mg base C k fa fd [x] F)
    (hF : ∀ ns : List Int, ns.length ≤ n → (∀ z ∈ ns, Builtin.Int.intBits z ≤ 1048576) → ∃ outs, F [.val (.lst (ns.map D.int))] = .ok (.bl true) outs) : PySem.W.WalkO q loose XP YP l.row.toRowW d [] (fun f vs => PySem.call f vs) := by
  refine Att.attach_callB hn hdf fun w s₀ s₁ mg mb fa o pm cd doc a vs ns G Y ho hd hcd hmg hobj hints hlen hbits hg => ?_
  have KX := hY w _ Y
  obtain ⟨C, fd, cs, c1, c2, c3, c4, c5, hb, hf⟩ := fn w mg fa _ Y KX G.T.g hmg
  exact tab_call c1 c2 KX G.T.g G.T.b G.T.builtins G.T.nolimit hg c3 c4 c5 G.T.bmain hobj hints (Nat.le_trans hlen hn2) room hf hb (hF ns hlen hbits)
end
end TL

set_option Elab.async false
set_option linter.all false
set_option maxRecDepth 100000
set_option maxHeartbeats 4000000
/-! TL23: x op= e. -/
namespace TL
open PySem PySem.Spec PyProof.Rows L2

def sAugV (i : Nat) (f : D → D → Option D) (m : SS → O D) : SS → OS := fun σ => match σ[i]? with
  | some (some (.val a)) => (m σ).bindS fun d σ1 => match f a d with
    | some r => .nx (σ1.set i (some (.val r)))
    | none => .bad
  | _ => .bad
section
variable {X : Cx} {C : Cn} {e : Expr} {pos : Pos}
theorem aug_core {W : WX} {D' : Ends} {τ : L2.St} {H : Hp} {i : Nat} {f : D → D → Option D} {m : SS → O D} (h : tSt C W (sAugV i f m) D' τ H) : tAug i (tE C W m) (rD C f) D' τ H := by
  obtain ⟨G, σ, sr, p⟩ := h
  unfold sAugV at p
  split at p
  · rename_i a ea
    obtain ⟨x, F, hx, r⟩ := sr.at ea
    refine ⟨x, hx, ?_⟩
    refine (tSt_bind (R := fun _ => Rp C) ⟨G, σ, sr, p⟩).mono fun y H1 ⟨d, r', fx, G1, σ1, sr1, p1⟩ => ?_
    split at p1
    · rename_i rr hf
      have ra : Rp C H a x := by first | exact r | exact r.1 | simpa only [RSD] using r
      exact ⟨a, d, rr, (ra.fx fx).rb, r'.rb, hf, fun z H' sm rz => p1 _ H' ((sr1.same sm).setVal rz) (.of_same sm)⟩
    · exact p1.elim
  · exact p.elim
theorem ms_aug {m : SS → O D} {op : Operator} {f : D → D → Option D} (i : Nat) {x : Str} {pos' : Pos} (hN : X.N.Nodup) (hi : X.N[i]? = some x) (hx : Loc X.env.scope x) (ho : ∀ E, PIp (X.wish E) op (rD C f)) (h : ME X C e m)
    (hf : X.fn x = true ∨ X.env.scope.names.lookup x = some .local := by first | exact .inl rfl | exact .inr rfl | assumption) : MS X C (.AugAssign (.Name x pos') op e pos) (sAugV i f m) :=
  ⟨fun E W tk pw => (ps_aug (X := X.wish E) hN hi hx (h.pe E W tk) (ho E) hf).imp fun D' τ H q => aug_core q⟩
/-- ints and texts -/
def opIAdd : D → D → Option D
  | .int i, .int j => some (.int (i + j))
  | .str x, .str y => if x.length + y.length ≤ LIM then some (.str (x ++ y)) else none
  | _, _ => none
def opISub : D → D → Option D
  | .int i, .int j => some (.int (i - j))
  | _, _ => none
theorem ip_subD : PIp X .Sub (rD C opISub) := by
  intro p s τ H x y v u Q I rx ry ⟨a, b, d, ra, rb, e, k⟩
  unfold opISub at e
  split at e
  · cases e
    have := ra.int; subst this
    have := rb.int; subst this
    exact ip_sub p s τ H _ _ v u Q I rx ry ⟨_, _, rfl, rfl, k _ H (.refl H) .i⟩
  · cases e
theorem ip_addD : PIp X .Add (rD C opIAdd) := by
  intro p s τ H x y v u Q I rx ry ⟨a, b, d, ra, rb, e, k⟩
  unfold opIAdd at e
  split at e
  · cases e
    have := ra.int; subst this
    have := rb.int; subst this
    exact ip_add p s τ H _ _ v u Q I rx ry ⟨_, _, rfl, rfl, k _ H (.refl H) .i⟩
  · split at e
    · rename_i hl
      cases e
      have := ra.str; subst this
      have := rb.str; subst this
      exact iop_add_str p s τ H _ _ v u Q I rx ry ⟨_, _, rfl, rfl, by rw [LIM_eq]; exact hl, k _ H (.refl H) .s⟩
    · cases e
  · cases e
end
end TL

set_option Elab.async false
set_option linter.all false
set_option maxRecDepth 100000
set_option maxHeartbeats 4000000
/-! TL24: zip of two tuples or two lists. -/
namespace TL
open PySem PySem.Spec PyProof.Rows L2

def pairs (xs ys : List D) : List D := List.zipWith (fun x y => .tup [x, y]) xs ys
def sZip (m n : SS → O D) : SS → O (List D) := fun σ => (m σ).bind fun d1 σ1 => (n σ1).bind fun d2 σ2 => match d1, d2 with
  | .lst xs, .lst ys => .ok (pairs xs ys) σ2
  | .tup xs, .tup ys => .ok (pairs xs ys) σ2
  | _, _ => .bad
section
variable {X : Cx} {C : Cn} {pos p1 tpos : Pos}
theorem pairs_len {xs ys : List D} : (pairs xs ys).length = min xs.length ys.length := by simp [pairs]
theorem pairs_get {xs ys : List D} {i : Nat} {x y : D} (hx : xs[i]? = some x) (hy : ys[i]? = some y) : (pairs xs ys)[i]? = some (.tup [x, y]) := by
  unfold pairs
  rw [List.getElem?_zipWith, hx, hy]
theorem itok_zip {H1 : Hp} {a b : Addr} {vs ws : List V} {xs ys : List D} (s : ∀ H, Fx C.T H1 H → SqL C.K H a vs) (s' : ∀ H, Fx C.T H1 H → SqL C.K H b ws) (r : RpL C H1 xs vs) (r' : RpL C H1 ys ws) : ItOk C (Itz C.K a b) H1 (pairs xs ys) := by
  refine ⟨fun i H f hi => ?_, fun i H x H' f hi y => ?_, fun H f => ⟨vs, ws, s H f, s' H f, by rw [pairs_len, r.length, r'.length]; omega⟩⟩
  · rw [pairs_len] at hi
    obtain ⟨v, e, _⟩ := r.get (List.getElem?_eq_getElem (show i < xs.length by omega))
    obtain ⟨w, e', _⟩ := r'.get (List.getElem?_eq_getElem (show i < ys.length by omega))
    exact ⟨vs, ws, v, w, s H f, s' H f, e, e'⟩
  · rw [pairs_len] at hi
    obtain ⟨T, z, z', e1, e2, e3, e4, e5⟩ := y
    subst e1 e3
    have sm : Same H (upd H T (.tup [z, z'])) := same_new e2
    have gx := List.getElem?_eq_getElem (show i < xs.length by omega)
    have gy := List.getElem?_eq_getElem (show i < ys.length by omega)
    obtain ⟨v, e, q1⟩ := (r.fx f).get gx
    obtain ⟨w, e', q2⟩ := (r'.fx f).get gy
    rw [e4 vs (s _ f)] at e; cases e
    rw [e5 ws (s' _ f)] at e'; cases e'
    exact ⟨sm, _, pairs_get gx gy, rp_tup (SqT.of upd_same) (.cons (q1.fx (.of_same sm)) (.cons (q2.fx (.of_same sm)) .nil))⟩
theorem itok_zipT {H1 : Hp} {a b : Addr} {vs ws : List V} {xs ys : List D} (s : ∀ H, Fx C.T H1 H → SqT C.K H a vs) (s' : ∀ H, Fx C.T H1 H → SqT C.K H b ws) (r : RpL C H1 xs vs) (r' : RpL C H1 ys ws) : ItOk C (RZ.ItzT C.K a b) H1 (pairs xs ys) := by
  refine ⟨fun i H f hi => ?_, fun i H x H' f hi y => ?_, fun H f => ⟨vs, ws, s H f, s' H f, by rw [pairs_len, r.length, r'.length]; omega⟩⟩
  · rw [pairs_len] at hi
    obtain ⟨v, e, _⟩ := r.get (List.getElem?_eq_getElem (show i < xs.length by omega))
    obtain ⟨w, e', _⟩ := r'.get (List.getElem?_eq_getElem (show i < ys.length by omega))
    exact ⟨vs, ws, v, w, s H f, s' H f, e, e'⟩
  · rw [pairs_len] at hi
    obtain ⟨T, z, z', e1, e2, e3, e4, e5⟩ := y
    subst e1 e3
    have sm : Same H (upd H T (.tup [z, z'])) := same_new e2
    have gx := List.getElem?_eq_getElem (show i < xs.length by omega)
    have gy := List.getElem?_eq_getElem (show i < ys.length by omega)
    obtain ⟨v, e, q1⟩ := (r.fx f).get gx
    obtain ⟨w, e', q2⟩ := (r'.fx f).get gy
    rw [e4 vs (s _ f)] at e; cases e
    rw [e5 ws (s' _ f)] at e'; cases e'
    exact ⟨sm, _, pairs_get gx gy, rp_tup (SqT.of upd_same) (.cons (q1.fx (.of_same sm)) (.cons (q2.fx (.of_same sm)) .nil))⟩
theorem mi_zip {elts : List Expr} {kk : Nat} {a b : Expr} {m n : SS → O D} (hK : X.K = C.K) (hg : Gl X "zip") (hm : X.mg "zip" = none) (h : ME X C a m) (g : ME X C b n) (hs : starEach [a, b] X.env = (false, eval a X.env) :: starEach [b] X.env := by rfl) (hs2 : starEach [b] X.env = [(false, eval b X.env)] := by rfl) (hpl : (backTo pos (starEach [b] X.env)).any (·.1) = false := by rfl) :
    MI X C (.Tuple elts kk tpos) (.Call (.Name "zip" p1) [a, b] [] pos) (sZip m n) := by
  refine ⟨fun E W tk => (RZ.pi_zipA (X := X.wish E) hg hm (pa_cons (h.pe E W tk) (pa_cons (g.pe E W tk) pa_nil hs2) hs) hs hpl).imp fun τ H R q => ?_⟩
  rw [show (X.wish E).K = C.K from hK]
  refine (tG_bind (R := fun _ => Rp C) q).mono fun x H1 ⟨d, r1, f1, q1⟩ => ?_
  refine (tG_bind (R := fun _ => Rp C) q1).mono fun y H2 ⟨d2, r2, f2, G, σ, sr, p⟩ => ?_
  dsimp only at p
  split at p
  · rename_i xs ys
    have r1' := r1.fx f2
    simp only [Rp] at r1' r2
    obtain ⟨a', vs, rfl, s, r⟩ := r1'
    obtain ⟨b', ws, rfl, s', r'⟩ := r2
    exact ⟨a', b', vs, ws, rfl, .inl ⟨lst_stands s (Fx.refl (T := C.T) _), lst_stands s' (Fx.refl (T := C.T) _), p _ H2 (itok_zip (fun H f => lst_stands s f) (fun H f => lst_stands s' f) r r') sr (.refl _)⟩⟩
  · rename_i xs ys
    have r1' := r1.fx f2
    simp only [Rp] at r1' r2
    obtain ⟨a', vs, rfl, s, r⟩ := r1'
    obtain ⟨b', ws, rfl, s', r'⟩ := r2
    exact ⟨a', b', vs, ws, rfl, .inr ⟨s, s', p _ H2 (itok_zipT (fun H f => TL.SqT.fx f s) (fun H f => TL.SqT.fx f s') r r') sr (.refl _)⟩⟩
  · exact p.elim
end
end TL

set_option Elab.async false
set_option linter.all false
set_option maxRecDepth 100000
set_option maxHeartbeats 4000000
/-! TL25: min and max of two ints; built-in functions of two arguments. -/
namespace TL
open PySem PySem.Spec PyProof.Rows L2

def opMin : D → D → Option D
  | .int i, .int j => some (.int (if j < i then j else i))
  | _, _ => none
def opMax : D → D → Option D
  | .int i, .int j => some (.int (if j > i then j else i))
  | _, _ => none
section
variable {X : Cx} {C : Cn} {a b : Expr} {x : Str} {p pos : Pos}
/-- a built-in function's two arguments -/
def rB (C : Cn) (f : D → D → Option D) : List V → Hp → VK → Prop := fun xs H Q => ∃ x y, xs = [x, y] ∧ rD C f x y H Q
theorem me_callB2 {f : D → D → Option D} {ma mb : SS → O Hd} {id : String} (hc : ∀ E, CallR (X.wish E) (.builtin id) (rB C f)) (hg : Gl X x) (hm : X.mg x = none) (hv : bootBuiltins x = some (.builtin id)) (ha : MH X C a ma) (hb : MH X C b mb) (hn : x ≠ "__name__" := by decide) (hdb : (x == ("__debug__" : Str)) = false := by decide)
    (he : starEach [a, b] X.env = (false, eval a X.env) :: starEach [b] X.env := by rfl) (he2 : starEach [b] X.env = (false, eval b X.env) :: starEach [] X.env := by rfl) (hpl : (backTo pos (starEach [b] X.env)).any (·.1) = false := by rfl) : ME X C (.Call (.Name x p) [a, b] [] pos) (sOp f ma mb) :=
  ⟨fun E W tk => (pe_callB (X := X.wish E) (hc E) hg hm hv (pa_cons (ha.pe E W tk) (pa_cons (hb.pe E W tk) pa_nil he2) he) hn hdb he hpl).imp fun τ H Q q =>
    (show tHd C W ma τ H (fun x H1 => tHd C W mb τ H1 fun y H2 => rD C f x y H2 Q) from op_core q).mono fun x H1 z => (show tHd C W mb τ H1 _ from z).mono fun y H2 w => ⟨x, y, rfl, w⟩⟩
theorem cr_minD (hc : X.calm = true) : CallR X (.builtin "min") (rB C opMin) := by
  intro pins s σ H xs us Q I r h
  obtain ⟨x, y, rfl, a, b, d, ra, rb, e, k⟩ := h
  unfold opMin at e
  split at e
  · cases e
    have := ra.int; subst this
    have := rb.int; subst this
    exact call_min2 hc pins s σ H _ us Q I r ⟨_, _, rfl, k _ H (.refl H) .i⟩
  · cases e
theorem cr_maxD2 (hc : X.calm = true) : CallR X (.builtin "max") (rB C opMax) := by
  intro pins s σ H xs us Q I r h
  obtain ⟨x, y, rfl, a, b, d, ra, rb, e, k⟩ := h
  unfold opMax at e
  split at e
  · cases e
    have := ra.int; subst this
    have := rb.int; subst this
    exact call_max2 hc pins s σ H _ us Q I r ⟨_, _, rfl, k _ H (.refl H) .i⟩
  · cases e
theorem me_min {ma mb : SS → O Hd} (hc : X.calm = true) (hg : Gl X "min") (hm : X.mg "min" = none) (ha : MH X C a ma) (hb : MH X C b mb)
    (he : starEach [a, b] X.env = (false, eval a X.env) :: starEach [b] X.env := by rfl) (he2 : starEach [b] X.env = (false, eval b X.env) :: starEach [] X.env := by rfl) (hpl : (backTo pos (starEach [b] X.env)).any (·.1) = false := by rfl) : ME X C (.Call (.Name "min" p) [a, b] [] pos) (sOp opMin ma mb) :=
  me_callB2 (fun E => cr_minD hc) hg hm (by decide +kernel) ha hb (by decide) (by decide) he he2 hpl
theorem me_max {ma mb : SS → O Hd} (hc : X.calm = true) (hg : Gl X "max") (hm : X.mg "max" = none) (ha : MH X C a ma) (hb : MH X C b mb)
    (he : starEach [a, b] X.env = (false, eval a X.env) :: starEach [b] X.env := by rfl) (he2 : starEach [b] X.env = (false, eval b X.env) :: starEach [] X.env := by rfl) (hpl : (backTo pos (starEach [b] X.env)).any (·.1) = false := by rfl) : ME X C (.Call (.Name "max" p) [a, b] [] pos) (sOp opMax ma mb) :=
  me_callB2 (fun E => cr_maxD2 hc) hg hm (by decide +kernel) ha hb (by decide) (by decide) he he2 hpl
end
end TL

set_option Elab.async false
set_option linter.all false
set_option maxRecDepth 100000
set_option maxHeartbeats 4000000
/-! TL26: s.join(texts). -/
namespace TL
open PySem PySem.Spec PyProof.Rows L2

def strsOf : List D → Option (List Str)
  | [] => some []
  | .str x :: ds => (strsOf ds).map (x :: ·)
  | _ :: _ => none
def joinD (a : Str) (ds : List D) : Option D := match strsOf ds with
  | some ys => if (ys.map (·.length)).sum + ys.length * a.length ≤ 16777216 then some (.str (Txt.join a ys)) else none
  | none => none
def opJoin : D → D → Option D
  | .str a, .tup ds => joinD a ds
  | .str a, .lst ds => joinD a ds
  | _, _ => none
theorem strsOf_map (ys : List Str) : strsOf (ys.map D.str) = some ys := by
  induction ys with
  | nil => rfl
  | cons y ys ih => simp only [List.map_cons, strsOf, ih, Option.map_some]
theorem RpL.strs {C : Cn} {H : Hp} : ∀ {ds : List D} {vs : List V} {ys : List Str}, RpL C H ds vs → strsOf ds = some ys → vs = ys.map V.str
  | [], vs, ys, r, e => by
    simp only [RpL] at r
    cases e
    exact r
  | d :: ds, vs, ys, r, e => by
    simp only [RpL] at r
    obtain ⟨v, vs', rfl, r1, r2⟩ := r
    unfold strsOf at e
    split at e
    · rename_i h; cases h
    · rename_i x ds' h
      cases h
      cases e2 : strsOf ds with
      | none => rw [e2] at e; cases e
      | some zs =>
        rw [e2] at e
        cases e
        have := r1.rb.str; subst this
        rw [List.map_cons, ← RpL.strs r2 e2]
    · cases e
section
variable {X : Cx} {C : Cn} {a b : Expr} {apos pos : Pos}
theorem joinD_some {x : Str} {ds : List D} {d : D} (e : joinD x ds = some d) : ∃ ys, strsOf ds = some ys ∧ (ys.map (·.length)).sum + ys.length * x.length ≤ 16777216 ∧ d = .str (Txt.join x ys) := by
  unfold joinD at e
  split at e
  · rename_i ys h
    split at e
    · rename_i hl
      cases e
      exact ⟨ys, h, hl, rfl⟩
    · cases e
  · cases e
def sJoin (ma : SS → O D) (mb : SS → O Hd) : SS → O D := fun σ => (ma σ).bind fun d1 σ1 => match d1 with
  | .str t => (mb σ1).bind fun h2 σ2 => match res σ2 h2 with
    | some y => ofOpt (opJoin (.str t) y) σ2
    | none => .bad
  | _ => .bad
theorem me_join {ma : SS → O D} {mb : SS → O Hd} (hK : X.K = C.K) (ha : ME X C a ma) (hb : MH X C b mb) (hs : starEach [b] X.env = [(false, eval b X.env)] := by rfl) (hbase : attributeBase a "join" X.env (eval a X.env) = eval a X.env := by rfl) (hline : (apos.endLine == pos.line) = true := by rfl) :
    ME X C (.Call (.Attribute a "join" apos) [b] [] pos) (sJoin ma mb) := by
  refine ⟨fun E W tk => (pe_join (X := X.wish E) (ha.pe E W tk) (hb.pe E W tk) hs hbase hline).imp fun τ H Q q => ?_⟩
  rw [show (X.wish E).K = C.K from hK]
  refine (tG_bind (R := fun _ => Rp C) q).mono fun x H1 ⟨d, r1, f1, q1⟩ => ?_
  cases d with
  | str t =>
    have := r1.rb.str; subst this
    refine ⟨⟨t, rfl⟩, ?_⟩
    refine (tG_bind (R := RH C) q1).mono fun y H2 ⟨h2, r2, f2, G, σ, sr, p⟩ => ?_
    dsimp only at p
    split at p
    · rename_i dy ey
      have rb := sr.res r2 ey
      cases eo : opJoin (.str t) dy with
      | none => rw [eo] at p; exact p.elim
      | some d =>
        rw [eo] at p
        unfold opJoin at eo
        split at eo
        · rename_i t' ds e1
          cases e1
          obtain ⟨ys, h1, h2, rfl⟩ := joinD_some eo
          obtain ⟨pp, vs, rfl, s, r⟩ := rb.tup
          have := r.strs h1; subst this
          exact ⟨t, pp, ys, rfl, rfl, .inr s, h2, p _ H2 .s sr (.refl _)⟩
        · rename_i t' ds e1
          cases e1
          obtain ⟨ys, h1, h2, rfl⟩ := joinD_some eo
          obtain ⟨pp, vs, rfl, s, r⟩ := rb.lst
          have := r.strs h1; subst this
          exact ⟨t, pp, ys, rfl, rfl, .inl s, h2, p _ H2 .s sr (.refl _)⟩
        · cases eo
    · exact p.elim
  | _ =>
    obtain ⟨G, σ, sr, p⟩ := q1
    exact p.elim
end
end TL

set_option Elab.async false
set_option linter.all false
set_option maxRecDepth 100000
set_option maxHeartbeats 4000000
/-! TL27: t.index(x), a tuple of texts. -/
namespace TL
open PySem PySem.Spec PyProof.Rows L2

def idxS : List Str → Str → Option Nat
  | [], _ => none
  | y :: ys, z => if y = z then some 0 else (idxS ys z).map (· + 1)
theorem idxS_spec : ∀ {ys : List Str} {z : Str} {j : Nat}, idxS ys z = some j → ys[j]? = some z ∧ ∀ m, m < j → ys[m]? ≠ some z
  | [], _, _, e => by cases e
  | y :: ys, z, j, e => by
    unfold idxS at e
    split at e
    · rename_i h
      cases e
      subst h
      exact ⟨rfl, fun m hm => absurd hm (Nat.not_lt_zero _)⟩
    · rename_i h
      cases e2 : idxS ys z with
      | none => rw [e2] at e; cases e
      | some k =>
        rw [e2] at e
        cases e
        obtain ⟨h1, h2⟩ := idxS_spec e2
        refine ⟨by simpa using h1, fun m hm => ?_⟩
        cases m with
        | zero => simpa using h
        | succ m => simpa using h2 m (Nat.lt_of_succ_lt_succ hm)
def idxD (ds : List D) : D → Option D
  | .str z => match strsOf ds with
    | some ys => (idxS ys z).map fun j => .int (j : Nat)
    | none => none
  | _ => none
/-- T.index(e), T a tuple of the module -/
def sIdx (ds : List D) (mb : SS → O D) : SS → O D := fun σ => (mb σ).bind fun d2 σ2 => ofOpt (idxD ds d2) σ2
section
variable {X : Cx} {C : Cn} {e : Expr} {apos cpos p1 : Pos}
theorem me_index {x : Str} {A : Addr} {ds : List D} {mb : SS → O D} (hK : X.K = C.K) (hg : Gl X x) (hm : X.mg x = some (.ref A)) (hd : ∀ H, Rp C H (.tup ds) (.ref A)) (hk : ∃ o, C.K.lookup A = some o ∧ o.cls = .type "tuple" ∧ o.dict = none) (h : ME X C e mb)
    (hdb : (x == ("__debug__" : Str)) = false := by decide)
    (hbase : attributeBase (.Name x p1) "index" X.env (eval (.Name x p1) X.env) = eval (.Name x p1) X.env := by rfl)
    (hfew : ((backTo cpos (starEach [e] X.env)).all (fun x => !x.1) && (backToKw cpos (keywordEach [] X.env)).all (fun x => x.1.isSome) && decide ([e].length + ([] : List Keyword).length + (if ([] : List Keyword).isEmpty then 0 else 1) < 30)) = true := by rfl)
    (hline : (apos.endLine == cpos.line) = true := by rfl) (hs : starEach [e] X.env = (false, eval e X.env) :: starEach [] X.env := by rfl) (hplain : (backTo cpos (starEach [] X.env)).any (·.1) = false := by rfl) :
    ME X C (.Call (.Attribute (.Name x p1) "index" apos) [e] [] cpos) (sIdx ds mb) := by
  refine ⟨fun E W tk => (pe_bm (X := X.wish E) PySem.F.plainAttrs_tuple PySem.F.slot_tuple_index PySem.F.type_tuple_index mt_tup_index (pe_glob (X := X.wish E) (v := .ref A) hg hm rfl hdb) (pa_cons (h.pe E W tk) pa_nil hs) hbase hfew hline hs hplain).imp fun τ H Q q => ?_⟩
  rw [show (X.wish E).K = C.K from hK]
  refine ⟨.inr (.inl ⟨rfl, hk⟩), ?_⟩
  refine (tG_bind (R := fun _ => Rp C) q).mono fun y H2 ⟨d2, r2, f2, G, σ, sr, p⟩ => ?_
  cases eo : idxD ds d2 with
  | none => rw [eo] at p; exact p.elim
  | some d =>
    rw [eo] at p
    unfold idxD at eo
    split at eo
    · rename_i z
      split at eo
      · rename_i ys hy
        cases ei : idxS ys z with
        | none => rw [ei] at eo; cases eo
        | some j =>
          rw [ei] at eo
          cases eo
          obtain ⟨h1, h2⟩ := idxS_spec ei
          have r1 := hd H2
          simp only [Rp] at r1
          obtain ⟨b, vs, eb, s, r⟩ := r1
          cases eb
          have := r.strs hy; subst this
          have := r2.rb.str; subst this
          exact ⟨_, ys, z, j, rfl, rfl, s, h1, h2, p _ H2 .i sr (.refl _)⟩
      · cases eo
    · cases eo
end
end TL

set_option Elab.async false
set_option linter.all false
set_option maxRecDepth 100000
set_option maxHeartbeats 4000000
/-! TL28: enumerate of a tuple. -/
namespace TL
open PySem PySem.Spec PyProof.Rows L2

theorem meets_enum1 {v : Value} {o : Obj} {Hh : Heap → Prop} (B : Begins v o Hh) :
    Meets (Builtin.«enumerate.__new__» ⟨[.type "enumerate", v], []⟩) (fun _ R s => Hh s.heap ∧
      R (.ok (.ret (.ref (s.heap.push o).objs.size))) { s with heap := (s.heap.push o).push { cls := .type "enumerate", data := .fields #[.none, .bool false, .ref s.heap.objs.size, rawInt 0, .none, .none] } }) :=
  .of_wp fun prog w A R s h => by
    obtain ⟨hp, g, d, tk, os⟩ := s; obtain ⟨h1, h⟩ := h
    have hsub := sub_enumerate
    have q1 : ∀ {A' : Around} {E : Value → Shared → Prop} {Q : Value → Shared → Prop}, Q (.ref hp.objs.size) ⟨hp.push o, g, d, tk, os⟩ → wpAny (model prog w) A' (pyIter v) Q E ⟨hp, g, d, tk, os⟩ :=
      fun q => B.iter prog w _ _ ⟨hp, g, d, tk, os⟩ _ h1 q
    wp_walk using q1
    refine wpAny_stack_any fun st => wpAny_pure ?_
    split
    · rename_i c _ _ _ _ _
      cases (c == Value.type "enumerate")
      · wp_walk using q1
        exact ⟨_, rfl, h⟩
      · wp_walk using q1
        exact ⟨_, rfl, h⟩
    · wp_walk using q1
      exact ⟨_, rfl, h⟩
section
variable {prog : Program} {w : World} {A : Around} {E : Value → Shared → Prop} {s : Shared}
theorem call_enum1 {v : Value} {o : Obj} {Hh : Heap → Prop} {Q : Value → Shared → Prop} (B : Begins v o Hh) (h1 : Hh s.heap)
    (h : ∀ h', IsEnum h' (s.heap.objs.size + 1) s.heap.objs.size 0 .none → h'.get? s.heap.objs.size = some o → h'.objs.size = s.heap.objs.size + 2 →
      (∀ b o, s.heap.get? b = some o → h'.get? b = some o) → Q (.ref (s.heap.objs.size + 1)) { s with heap := h' }) :
    wpAny (model prog w) A (call (.type "enumerate") [v]) Q E s := by
  refine callType_new F.called_enumerate (by decide) (F.typeCall_enumerate_1 _) (F.newCall_enumerate_1 _) (fun obj => F.args_object_init_2 obj _) F.entry_enumerate_new
    (meets_enum1 B) ⟨h1, ?_⟩
  have hz : (s.heap.push o).objs.size = s.heap.objs.size + 1 := Heap.size_push ..
  show _ ∧ _
  rw [hz]
  have he : IsEnum ((s.heap.push o).push { cls := .type "enumerate", data := .fields #[.none, .bool false, .ref s.heap.objs.size, rawInt 0, .none, .none] }) (s.heap.objs.size + 1) s.heap.objs.size 0 .none := by
    have := Heap.get?_push_size (s.heap.push o) (o := { cls := .type "enumerate", data := .fields #[.none, .bool false, .ref s.heap.objs.size, rawInt 0, .none, .none] }) rfl
    rw [hz] at this; exact this
  exact ⟨⟨_, he, rfl⟩, h _ he (Heap.get?_push_of_some _ (Heap.get?_push_size _ B.free)) (by rw [Heap.size_push, hz]) fun b o x => Heap.get?_push_of_some _ (Heap.get?_push_of_some _ x)⟩
theorem enum_endT {e it t : Addr} {items : Array Value} {old : Value} {Q : Option Value → Shared → Prop} {i : Nat} {c : Int} (hh : A.in1.handled = none) (he : IsEnum s.heap e it c old) (hit : s.heap.IsTupleIter it t i) (ht : s.heap.IsTuple t items) (hx : items[i]? = none)
    (hQ : ∀ h', Heap.ExtBut it s.heap h' → Q none { s with heap := h' }) : wpAny (model prog w) A (pyNext (.ref e)) Q E s := by
  have hT : s.TypeIs (.ref e) "enumerate" := ⟨_, he, rfl⟩
  unfold pyNext
  refine wpAny_bind (wpAny_attempt (wpAny_callSpecial?_slot (name := Str.ofString "__next__") hT F.slot_enumerate_next
    (wpAny_call_entry F.slot_enumerate_next hT F.entry_enumerate_next ?_ (F.args_enumerate_next_1 _))))
  show wpAny _ _ (field (.ref e) 2 >>= _) _ _ _
  refine wpAny_bind (wpAny_field he rfl (x := .ref it) rfl ?_)
  refine wpAny_bind (wpAny_nextOf_tuple_end hh hit ht hx fun h' x he' hx' => ?_)
  obtain ⟨o, ho, hc⟩ := hx'
  refine wpAny_bind (wpAny_isInstance (T := "StopIteration") (b := true) ⟨o, ho, hc⟩ isSubtype_stop ?_)
  exact wpAny_pure (hQ _ he')
end
/-- the tuple at a, each item in a new pair -/
def IteT (K : PySem.W.Frag) (a : Addr) : It :=
  ⟨fun i H => ∃ (xs : List V) (x : V), SqT K H a xs ∧ xs[i]? = some x, fun i H v H' => ∃ T x, v = .ref T ∧ H T = none ∧ H' = upd H T (.tup [.int (i : Nat), x]) ∧ ∀ xs, SqT K H a xs → xs[i]? = some x, fun i H => ∃ xs : List V, SqT K H a xs ∧ xs.length ≤ i⟩
theorem turn_enumT {P : Program} {w : World} {K : PySem.W.Frag} {elts : List Expr} {kk : Nat} {tpos : Pos} (a e it : Addr) :
    Turn P w K (.Tuple elts kk tpos) (IteT K a) [e, it] e (fun i h => (∃ old, IsEnum h e it ((i : Nat) : Int) old) ∧ h.IsTupleIter it a i ∧ e ≠ it ∧ a ≠ it ∧ e ≠ a) where
  mem := by simp
  obj := fun i h st b hb => by
    obtain ⟨⟨old, he⟩, ⟨o, ho, hc, hd⟩, _⟩ := st
    have e' : b = e ∨ b = it := by simpa using hb
    rcases e' with z | z
    · rw [z]; exact ⟨_, he, fun v q => nomatch q⟩
    · rw [z]; exact ⟨o, ho, fun v q => by rw [hd] at q; cases q⟩
  keep := fun i h h' st k => let ⟨⟨old, he⟩, hi, hne⟩ := st; ⟨⟨old, k e (by simp) _ he⟩, hi.at fun o q => k it (by simp) o q, hne⟩
  item := by
    intro X hP hw hK hc i pins s σ H E I hf st hg
    subst hP hw hK
    obtain ⟨⟨old, he⟩, hit, hne, hai, hea⟩ := st
    obtain ⟨xs, x, hq, hx⟩ := hg
    obtain ⟨its, rv, p, hz⟩ := I.tuple hq
    obtain ⟨u, hu, ru⟩ := rv.get hx
    have hel : e < s.heap.objs.size := Heap.lt_size he
    have hil : it < s.heap.objs.size := by obtain ⟨_, q, _⟩ := hit; exact Heap.lt_size q
    have hlt : i < its.toArray.size := by
      have := (List.getElem?_eq_some_iff.mp hu).1
      simpa using this
    have hh : X.A.in1.handled = none := I.ok.hd hc
    refine wpAny_pyNext_enum_itemD (Draws.tuple hh it a hai its.toArray) he ⟨hit, p⟩ hlt hne (by simp [hne, hea]) fun u' h' tk hu' ho hst hT hsz hk => ?_
    have eu : u' = u := by
      have h1 : its.toArray[i]? = some u := by simpa using hu
      have h2 : its.toArray[i]? = some u' := hu'
      rw [h1] at h2; cases h2; rfl
    subst eu
    refine ⟨_, rfl, wpAny_letOwnedTupleGo_enum (s := { s with heap := h', toks := tk + 1 }) ho fun h'' he' sb => ?_⟩
    have hT2 : h''.get? s.heap.objs.size = some { cls := .type "tuple", data := .seq #[.int i tk, u'] } := (sb.2 _ (Nat.ne_of_gt hel)).trans hT
    have new : ObjOk X.prog X.w (upd H s.heap.objs.size (.tup [.int (i : Nat), x])) h'' s.heap.objs.size (.tup [.int (i : Nat), x]) :=
      ⟨by show 2 ≤ sizeLine; decide, [.int i tk, u'], .cons ⟨_, rfl⟩ (.cons ru .nil), ⟨_, hT2, rfl, _, rfl⟩⟩
    have I1 : Inv X pins σ (upd H s.heap.objs.size (.tup [.int (i : Nat), x])) { s with heap := h'', toks := tk + 1 } :=
      I.turnedNew (ch := [e, it]) (fun b ob hb q => (sb.2 b (fun z => hb (by simp [z]))).trans (hk b ob (fun z => hb (by simp [z])) (fun z => hb (by simp [z])) q)) hf (Nat.le_refl _) new
    refine ⟨.ref s.heap.objs.size, _, I1, rfl, ⟨_, x, rfl, I.hok.fresh (Nat.le_refl _), rfl, fun ys hy => by rw [I.tuple_inj hy hq]; exact hx⟩, ⟨⟨u', ?_⟩, hst.1.at fun o q => (sb.2 it (Ne.symm hne)).trans q, hne, hai, hea⟩, fun b hb => ?_⟩
    · have e1 : ((i + 1 : Nat) : Int) = (i : Int) + 1 := by omega
      rw [e1]; exact he'
    · have hb' : b < s.heap.objs.size := by
        have e' : b = e ∨ b = it := by simpa using hb
        rcases e' with z | z
        · rw [z]; exact hel
        · rw [z]; exact hil
      rw [upd_ne (Nat.ne_of_lt hb')]
      exact (hf b hb).1
  done := by
    intro X hP hw hK hc i pins s σ H E I hf st hg
    subst hP hw hK
    obtain ⟨⟨old, he⟩, hit, hne, hai, hea⟩ := st
    obtain ⟨xs, hq, hx⟩ := hg
    obtain ⟨its, rv, p, hz⟩ := I.tuple hq
    obtain ⟨f0, f1, f2, f3, f4, f5⟩ := hf it (by simp)
    have hl := rv.length
    have hh : X.A.in1.handled = none := I.ok.hd hc
    exact enum_endT hh he hit p (by simp; omega) fun h' eb => ⟨rfl, I.turned (t' := s.toks) (fun b o hb q => eb b o hb q) f0 f1 f3 f4 f5⟩
  self := fun A i s Q E st h => let ⟨⟨_, he⟩, _⟩ := st; wpAny_pyIter_enum he h
def iEnumT (K : PySem.W.Frag) (ta : TA) : TI := fun σ H R => ta σ H fun vs H1 => ∃ a xs, vs = [.ref a] ∧ SqT K H1 a xs ∧ R (IteT K a) H1
theorem pi_enumT {X : Cx} {e : Expr} {ta : TA} {p pos tpos : Pos} {elts : List Expr} {kk : Nat} (hg : Gl X "enumerate") (hm : X.mg "enumerate" = none) (ha : PA X [e] ta) (hs : starEach [e] X.env = [(false, eval e X.env)] := by rfl) :
    PI X (.Tuple elts kk tpos) (.Call (.Name "enumerate" p) [e] [] pos) (iEnumT X.K ta) := by
  refine ⟨fun pins s σ H R I h => ?_⟩
  refine Call_ (ld_blt I hg hm boot_enumerate (PyProof.Rows.callWith_type1 (thn (ha.run pos pins s σ H _ I h) fun us s1 ⟨vs, H1, I1, r1, q1⟩ => ?_) hs rfl))
  obtain ⟨a, xs, ex, hq, q⟩ := q1
  subst ex
  cases r1 with
  | cons r rr =>
    cases rr
    cases r
    obtain ⟨its, rv, p', hz⟩ := I1.tuple hq
    have hal : a < s1.heap.objs.size := by obtain ⟨o, ho, _⟩ := id p'; exact Heap.lt_size ho
    refine call_enum1 (begins_tuple a its.toArray) p' fun h' he hit hsz hk => wpAny_pyIter_enum he ?_
    have I2 : Inv X pins σ H1 { s1 with heap := h' } := I1.kept (t' := s1.toks) hk
    refine ⟨s1.heap.objs.size + 1, [s1.heap.objs.size + 1, s1.heap.objs.size], _, _, H1, rfl, I2, turn_enumT a (s1.heap.objs.size + 1) s1.heap.objs.size, ⟨⟨.none, he⟩, ⟨_, hit, rfl, rfl⟩, Nat.succ_ne_self _, Nat.ne_of_lt hal, Nat.ne_of_gt (Nat.lt_succ_of_lt hal)⟩, fun b hb => ?_, q⟩
    have e' : b = s1.heap.objs.size + 1 ∨ b = s1.heap.objs.size := by simpa using hb
    have hle : s1.heap.objs.size ≤ b := by
      rcases e' with z | z
      · rw [z]; exact Nat.le_add_right _ _
      · rw [z]; exact Nat.le_refl _
    exact I1.fpOk hle (I1.hok.fresh hle)
def sEnumT (m : SS → O D) : SS → O (List D) := fun σ => (m σ).bind fun d σ1 => match d with
  | .tup ds => .ok (num ds) σ1
  | _ => .bad
section
variable {X : Cx} {C : Cn} {pos p1 : Pos}
theorem itok_enumT {H1 : Hp} {a : Addr} {vs : List V} {ds : List D} (s : ∀ H, Fx C.T H1 H → SqT C.K H a vs) (r : RpL C H1 ds vs) : ItOk C (IteT C.K a) H1 (num ds) := by
  have hl : (num ds).length = ds.length := by simp [num]
  refine ⟨fun i H f hi => ?_, fun i H x H' f hi y => ?_, fun H f => ⟨vs, s H f, by rw [hl, r.length]; exact Nat.le_refl _⟩⟩
  · rw [hl] at hi
    obtain ⟨v, e, _⟩ := r.get (List.getElem?_eq_getElem hi)
    exact ⟨vs, v, s H f, e⟩
  · rw [hl] at hi
    obtain ⟨T, z, e1, e2, e3, e4⟩ := y
    subst e1 e3
    have sm : Same H (upd H T (.tup [.int (i : Nat), z])) := same_new e2
    obtain ⟨v, e, r1⟩ := (r.fx f).get (List.getElem?_eq_getElem hi)
    rw [e4 vs (s _ f)] at e; cases e
    refine ⟨sm, .tup [.int (i : Nat), ds[i]], ?_, rp_tup (SqT.of upd_same) (.cons .i (.cons (r1.fx (.of_same sm)) .nil))⟩
    unfold num
    rw [List.getElem?_mapIdx, List.getElem?_eq_getElem hi]; rfl
theorem mi_enumT {elts : List Expr} {kk : Nat} {tpos : Pos} {a : Expr} {m : SS → O D} (hK : X.K = C.K) (hg : Gl X "enumerate") (hm : X.mg "enumerate" = none) (h : ME X C a m) (hs : starEach [a] X.env = [(false, eval a X.env)] := by rfl) :
    MI X C (.Tuple elts kk tpos) (.Call (.Name "enumerate" p1) [a] [] pos) (sEnumT m) := by
  refine ⟨fun E W tk => (pi_enumT (X := X.wish E) hg hm (pa_cons (h.pe E W tk) pa_nil hs) hs).imp fun τ H R q => ?_⟩
  rw [show (X.wish E).K = C.K from hK]
  refine (tG_bind (R := fun _ => Rp C) q).mono fun x H1 ⟨d, r1, f1, G, σ, sr, p⟩ => ?_
  dsimp only at p
  split at p
  · rename_i ds
    simp only [Rp] at r1
    obtain ⟨b, vs, rfl, s, r⟩ := r1
    exact ⟨b, vs, rfl, s, p _ H1 (itok_enumT (fun H f => TL.SqT.fx f s) r) sr (.refl _)⟩
  · exact p.elim
end
end TL

set_option Elab.async false
set_option linter.all false
set_option maxRecDepth 100000
set_option maxHeartbeats 4000000
/-! TL29: x.pop(i). -/
namespace TL
open PySem PySem.Spec PyProof.Rows L2

theorem RpL.eraseIdx {C : Cn} {H : Hp} : ∀ {ds : List D} {vs : List V} (n : Nat), RpL C H ds vs → RpL C H (ds.eraseIdx n) (vs.eraseIdx n)
  | [], _, _, h => by simp only [RpL] at h; subst h; simpa using RpL.nil
  | _ :: _, _, 0, h => by
    simp only [RpL] at h
    obtain ⟨v, r, rfl, h1, h2⟩ := h
    simpa using h2
  | _ :: _, _, n + 1, h => by
    simp only [RpL] at h
    obtain ⟨v, r, rfl, h1, h2⟩ := h
    simpa using RpL.cons h1 (RpL.eraseIdx n h2)
section
variable {X : Cx} {C : Cn} {e : Expr} {x : Str} {p1 apos cpos pos : Pos} {m : SS → O D}
/-- x.pop(e) -/
def sPopAt (i : Nat) (m : SS → O D) : SS → O D := fun σ => match curL σ i with
  | some _ => (m σ).bind fun d σ1 => match d with
    | .int j => match curL σ1 i with
      | some ds => if R62 j = true then match seqIndex? j ds.length with
        | some k => match ds[k]? with
          | some r => .ok r (put1 σ1 i (.lst (ds.eraseIdx k)))
          | none => .bad
        | none => .bad
        else .bad
      | none => .bad
    | _ => .bad
  | none => .bad
theorem me_popAt (i : Nat) (hN : X.N[i]? = some x) (hv : Vis X.env.scope x) (h : ME X C e m) (hd : (x == ("__debug__" : Str)) = false := by decide) (hcd : (x == ("__classdict__" : Str)) = false := by decide)
    (hbase : attributeBase (.Name x p1) "pop" X.env (eval (.Name x p1) X.env) = eval (.Name x p1) X.env := by rfl)
    (hfew : ((backTo cpos (starEach [e] X.env)).all (fun x => !x.1) && (backToKw cpos (keywordEach [] X.env)).all (fun x => x.1.isSome) && decide ([e].length + ([] : List Keyword).length + (if ([] : List Keyword).isEmpty then 0 else 1) < 30)) = true := by rfl)
    (hline : (apos.endLine == cpos.line) = true := by rfl) (hs : starEach [e] X.env = (false, eval e X.env) :: starEach [] X.env := by rfl) (hplain : (backTo cpos (starEach [] X.env)).any (·.1) = false := by rfl) :
    ME X C (.Call (.Attribute (.Name x p1) "pop" apos) [e] [] cpos) (sPopAt i m) := by
  refine ⟨fun E W tk => (pe_bm (X := X.wish E) PySem.F.plainAttrs_list PySem.F.slot_list_pop PySem.F.type_list_pop mt_popAt (pv i hN hv hd hcd) (pa_cons (h.pe E W tk) pa_nil hs) hbase hfew hline hs hplain).imp fun τ H Q ⟨G, σ, sr, p⟩ => ?_⟩
  unfold sPopAt at p
  split at p
  · rename_i ds0 e0
    obtain ⟨a, vs0, ev, ha, _⟩ := sr.curL e0
    refine ⟨_, ev, lst_ty ha, ?_⟩
    refine (tG_bind (R := fun _ => Rp C) ⟨G, σ, sr, p⟩).mono fun y H1 ⟨d, r, f, G1, σ1, s1, p1⟩ => ?_
    dsimp only at p1
    split at p1
    · rename_i j
      split at p1
      · rename_i ds e1
        split at p1
        · rename_i hj
          split at p1
          · rename_i k hk
            split at p1
            · rename_i rr er
              obtain ⟨b1, b2⟩ := R62_iff hj
              obtain ⟨a', vs, ev', ha', rl, wr⟩ := s1.curL e1
              rw [ev] at ev'; cases ev'
              obtain ⟨fx, s2⟩ := wr (ds.eraseIdx k) (vs.eraseIdx k) (rl.eraseIdx k)
              obtain ⟨v, e2, r2⟩ := rl.get er
              have := r.rb.int; subst this
              exact ⟨a, vs, j, k, v, rfl, rfl, ha', by omega, by omega, by rw [rl.length]; exact hk, e2, p1 _ _ (r2.fx fx) s2 fx⟩
            · exact p1.elim
          · exact p1.elim
        · exact p1.elim
      · exact p1.elim
    · exact p1.elim
  · exact p.elim
end
end TL

set_option Elab.async false
set_option linter.all false
set_option maxRecDepth 100000
set_option maxHeartbeats 4000000
/-! TL30: x[i] = e, x a list of one's own. -/
namespace TL
open PySem PySem.Spec PyProof.Rows L2

section
variable {X : Cx} {C : Cn} {e e2 : Expr} {x : Str} {p1 pos pos' : Pos}
/-- x[e] = e2 -/
def sLput (i : Nat) (mk mv : SS → O D) : SS → OS := fun σ => (mv σ).bindS fun d σ1 => match curL σ1 i with
  | some _ => (mk σ1).bindS fun kd σ2 => match curL σ2 i, kd with
    | some ds, .int k => match ixN ds.length k with
      | some j => .nx (put1 σ2 i (.lst (ds.set j d)))
      | none => .bad
    | _, _ => .bad
  | none => .bad
theorem ms_lput {mk mv : SS → O D} (i : Nat) (hN : X.N[i]? = some x) (hv : Vis X.env.scope x) (hk : ME X C e mk) (h2 : ME X C e2 mv)
    (hs : swapsWithSole [.Subscript (.Name x p1) e pos'] e2 pos.line X.env = pure false := by rfl) (hw : swappedStores [.Subscript (.Name x p1) e pos'] e2 X.env = pure none := by rfl)
    (h1 : (assignEach [.Subscript (.Name x p1) e pos'] X.env).map (·.2) = [assign (.Subscript (.Name x p1) e pos') X.env] := by rfl)
    (ha : ∀ v, assign (.Subscript (.Name x p1) e pos') X.env v = (do
      let ov ← holding [v] (eval (.Name x p1) X.env)
      let iv ← holding [v, ov] (eval e X.env)
      standAt pos'
      holding [v, ov, iv] (setItem ov iv v)
      release [v, ov, iv] []) := by intro _; rfl)
    (hd : (x == ("__debug__" : Str)) = false := by decide) (hcd : (x == ("__classdict__" : Str)) = false := by decide) :
    MS X C (.Assign [.Subscript (.Name x p1) e pos'] e2 pos) (sLput i mk mv) := by
  refine ⟨fun E W tk pw => (ps_asg (X := X.wish E) (h2.pe E W tk) (pg_sub (pv i hN hv hd hcd) (hk.pe E W tk) set_list ha) hs hw h1).imp fun D' τ H q => ?_⟩
  refine (tSt_bind (R := fun _ => Rp C) q).mono fun v H1 ⟨d, rd, f1, G, σ, sr, p⟩ => ?_
  dsimp only at p
  split at p
  · rename_i ds0 e0
    obtain ⟨a, vs0, ev, _⟩ := sr.curL e0
    refine ⟨_, ev, ?_⟩
    refine (tSt_bind (R := fun _ => Rp C) (f := fun kd σ2 => match TL.curL σ2 i, kd with
      | some ds, .int k => match ixN ds.length k with
        | some j => .nx (put1 σ2 i (.lst (ds.set j d)))
        | none => .bad
      | _, _ => .bad) ⟨G, σ, sr, p⟩).mono fun y H2 ⟨kd, r, f2, G1, σ1, s1, p1⟩ => ?_
    dsimp only at p1
    split at p1
    · rename_i ds k e1
      split at p1
      · rename_i j hj
        obtain ⟨a', vs, ev', ha', rl, wr⟩ := s1.curL e1
        rw [ev] at ev'; cases ev'
        obtain ⟨f3, s3⟩ := wr (ds.set j d) (vs.set j v) (RpL.set (rd.fx f2) j rl)
        have := r.rb.int; subst this
        exact ⟨a, vs, k, j, rfl, rfl, ha', by rw [rl.length]; exact hj, p1 τ _ s3 f3⟩
      · exact p1.elim
    · exact p1.elim
  · exact p.elim
end
end TL

set_option Elab.async false
set_option linter.all false
set_option maxRecDepth 100000
set_option maxHeartbeats 4000000
/-! TL31: range(a, b, -1). -/
namespace TL
open PySem PySem.Spec PyProof.Rows L2

def downFrom (lo : Int) (n : Nat) : List D := (List.range n).map fun i : Nat => .int (lo + (i : Int) * (-1))
def sRng3 (m n o : SS → O D) : SS → O (List D) := fun σ => (m σ).bind fun d σ1 => (n σ1).bind fun d2 σ2 => (o σ2).bind fun d3 σ3 => match d, d2, d3 with
  | .int i, .int j, .int k => if R62 i = true ∧ R62 j = true ∧ k = -1 then .ok (downFrom i (i - j).toNat) σ3 else .bad
  | _, _, _ => .bad
section
variable {X : Cx} {C : Cn} {pos p1 : Pos} {tg : Expr}
theorem itok_rangeC {H1 : Hp} {lo : Int} {n : Nat} : ItOk C (Itc lo (-1) n) H1 (downFrom lo n) := by
  have hl : (downFrom lo n).length = n := by simp [downFrom]
  refine ⟨fun i H f hi => by rw [hl] at hi; exact hi, fun i H x H' f hi y => ?_, fun H f => by rw [hl]; exact Nat.le_refl _⟩
  obtain ⟨e1, e2⟩ := y
  subst e1 e2
  rw [hl] at hi
  refine ⟨.refl _, .int (lo + (i : Int) * (-1)), ?_, .i⟩
  unfold downFrom
  rw [List.getElem?_map, List.getElem?_range hi]; rfl
theorem mi_range3 {a b c : Expr} {m n o : SS → O D} (hg : Gl X "range") (hm : X.mg "range" = none) (h : ME X C a m) (g : ME X C b n) (k : ME X C c o)
    (hs : starEach [a, b, c] X.env = (false, eval a X.env) :: starEach [b, c] X.env := by rfl) (hs1 : starEach [b, c] X.env = (false, eval b X.env) :: starEach [c] X.env := by rfl) (hs2 : starEach [c] X.env = (false, eval c X.env) :: starEach [] X.env := by rfl) (hpl : (backTo pos (starEach [b, c] X.env)).any (·.1) = false := by rfl) :
    MI X C tg (.Call (.Name "range" p1) [a, b, c] [] pos) (sRng3 m n o) := by
  refine ⟨fun E W tk => (pi_range3 (X := X.wish E) hg hm (pa_cons (h.pe E W tk) (pa_cons (g.pe E W tk) (pa_cons (k.pe E W tk) pa_nil hs2) hs1) hs) hs hpl).imp fun τ H R q => ?_⟩
  refine (tG_bind (R := fun _ => Rp C) q).mono fun x H1 ⟨d, r1, f1, q1⟩ => ?_
  refine (tG_bind (R := fun _ => Rp C) q1).mono fun y H2 ⟨d2, r2, f2, q2⟩ => ?_
  refine (tG_bind (R := fun _ => Rp C) q2).mono fun z H3 ⟨d3, r3, f3, G, σ, sr, p⟩ => ?_
  dsimp only at p
  split at p
  · rename_i i j k
    split at p
    · rename_i hj
      obtain ⟨hi, hj, rfl⟩ := hj
      obtain ⟨h1, h2⟩ := R62_iff hi
      obtain ⟨h3, h4⟩ := R62_iff hj
      have := r1.rb.int; subst this
      have := r2.rb.int; subst this
      have := r3.rb.int; subst this
      exact ⟨_, _, -1, _, rfl, RgC.neg h1 h2 h3 h4, p _ H3 itok_rangeC sr (.refl _)⟩
    · exact p.elim
  · exact p.elim
end
end TL

set_option Elab.async false
set_option linter.all false
set_option maxRecDepth 100000
set_option maxHeartbeats 4000000
/-! TL32: repr of tuples and lists, tuple(), list(), the module's dicts, k in d, range with a step; what is never reached. -/
namespace TL
open PySem PySem.Spec PyProof.Rows L2

/-! ### repr -/
def isSeqD : D → Bool
  | .tup _ => true
  | .lst _ => true
  | _ => false
def fRepr (d : D) : Option D := if ok 200 d = true ∧ isSeqD d = true then match toP d with
  | some p => if p.showable = true ∧ p.shown.length ≤ LIM then some (.str p.shown) else none
  | none => none else none
section
variable {X : Cx} {C : Cn} {n : Nat}
theorem cr_repr (hK : X.K = C.K) (hr : TRoom n X.A) : CallR X (.builtin "repr") (rU C fRepr) := by
  intro pins s σ H xs us Q I r h
  obtain ⟨x, a, d, rfl, ra, e, q⟩ := h
  obtain ⟨u, rfl, rx⟩ := vals1 r
  unfold fRepr at e
  split at e
  · rename_i hc
    obtain ⟨p, ep, cp, dp⟩ := ok_toP hc.1
    rw [ep] at e
    dsimp only at e
    split at e
    · rename_i hs
      cases e
      obtain ⟨as, r1⟩ := Dp.reads I p x u (hK ▸ ra.dp ep) rx
      have hu := hr.u64
      have fin : ∀ b, u = Value.ref b → wpAny (model X.prog X.w) X.A (call (.builtin "repr") [u]) (EP X pins σ Q) X.xe s := fun b eb => by
        subst eb
        exact repr_of_reads' r1 hs.1 (PyData.noDict_hsm (PyData.hasDict_of_canLay p cp)) hr.gd (by omega) (fun _ _ e => e)
          (fun h' t tk k => ⟨.str p.shown, H, I.kept k, ⟨t, rfl⟩, q _ H (.refl H) .s⟩) (by rw [LIM_eq]; exact hs.2)
      cases a with
      | tup ds =>
        obtain ⟨b, vs, rfl, _, _⟩ := ra.tup
        exact fin b rx
      | lst ds =>
        obtain ⟨b, vs, rfl, _, _⟩ := ra.lst
        exact fin b rx
      | _ => cases hc.2
    · cases e
  · cases e

/-! ### tuple(x), list(x) -/
def fTuple : D → Option D
  | .lst ds => some (.tup ds)
  | .tup ds => some (.tup ds)
  | _ => none
theorem cr_tuple (hK : X.K = C.K) : CallR X (.type "tuple") (rU C fTuple) := by
  intro pins s σ H xs us Q I r h
  obtain ⟨x, a, d, rfl, ra, e, q⟩ := h
  unfold fTuple at e
  split at e
  · cases e
    obtain ⟨b, vs, rfl, sl, rl⟩ := ra.lst
    refine call_tuple_of pins s σ H _ us Q I r ⟨b, vs, rfl, .inl ⟨hK ▸ sl, fun l hl => ?_⟩⟩
    have sm : Same H (upd H l (.tup vs)) := same_new hl
    exact q _ _ sm (rp_tup (SqT.of upd_same) (rl.fx (.of_same sm)))
  · cases e
    obtain ⟨b, vs, rfl, sl, rl⟩ := ra.tup
    exact call_tuple_of pins s σ H _ us Q I r ⟨b, vs, rfl, .inr ⟨hK ▸ sl, q _ H (.refl H) (rp_tup sl rl)⟩⟩
  · cases e
end
section
variable {X : Cx} {C : Cn} {e : Expr} {p pos : Pos} {x : Str}
/-- list(x): a new list -/
def sLstOf (m : SS → O Hd) : SS → O (List D) := fun σ => (m σ).bind fun h σ1 => match res σ1 h with
  | some (.lst ds) => .ok ds σ1
  | some (.tup ds) => .ok ds σ1
  | _ => .bad
theorem mf_listOf {m : SS → O Hd} (hK : X.K = C.K) (hg : Gl X "list") (hm : X.mg "list" = none) (ha : MH X C e m)
    (he : starEach [e] X.env = (false, eval e X.env) :: starEach [] X.env := by rfl) (hpl : (backTo pos (starEach [] X.env)).any (·.1) = false := by rfl) : MF X C (.Call (.Name "list" p) [e] [] pos) (sLstOf m) := by
  refine ⟨fun E W tk => (pe_callTy (X := X.wish E) (T := "list") call_list_of hg hm (by decide +kernel) (pa_cons (ha.pe E W tk) pa_nil he) (by decide) (by decide) he hpl).imp fun τ H Q h => ?_⟩
  refine (tF_bind (R := RH C) h).mono fun v H1 ⟨d, r1, f1, G, σ, sr, p⟩ => ?_
  have fin : ∀ ds : List D, (∃ a vs, v = .ref a ∧ (SqL (X.wish E).K H1 a vs ∨ SqT (X.wish E).K H1 a vs) ∧ RpL C H1 ds vs) → PostF C W τ G H1 (.ok ds σ) Q → ∃ p ys, [v] = [.ref p] ∧ (SqL (X.wish E).K H1 p ys ∨ SqT (X.wish E).K H1 p ys) ∧ ∀ l, H1 l = none → Q (.ref l) (upd H1 l (.lst ys)) := fun ds ⟨a, vs, ev, sq, rl⟩ q => by
    subst ev
    refine ⟨a, vs, rfl, sq, fun l hl => ?_⟩
    have sm : Same H1 (upd H1 l (.lst vs)) := same_new hl
    obtain ⟨n, sr2⟩ := sr.new (o := .lst vs) hl
    exact q _ _ _ upd_same (rl.fx (.of_same sm)) n sr2 (.of_same sm)
  dsimp only at p
  split at p
  · rename_i ds eq
    obtain ⟨a, vs, e1, s1, rl⟩ := (sr.res r1 eq).lst
    exact fin ds ⟨a, vs, e1, .inl (by rw [show (X.wish E).K = C.K from hK]; exact s1), rl⟩ p
  · rename_i ds eq
    obtain ⟨a, vs, e1, s1, rl⟩ := (sr.res r1 eq).tup
    exact fin ds ⟨a, vs, e1, .inr (by rw [show (X.wish E).K = C.K from hK]; exact s1), rl⟩ p
  · exact p.elim
end

/-! ### a dict of the module: texts to ints and texts -/
def LitD : D → Value → Prop
  | .int i, u => ∃ t, u = .int i t
  | .str x, u => ∃ t, u = .str x t
  | _, _ => False
def Ents (P : Params) : List DictEntry → List (Str × D) → Prop
  | [], [] => True
  | e :: r, (z, d) :: s => (∃ t, e.key = .str z t) ∧ e.hash = PyData.keyHash P z ∧ LitD d e.val ∧ Ents P r s
  | _, _ => False
structure KTab (K : PySem.W.Frag) (P : Params) (a : Addr) (tab : List (Str × D)) : Prop where
  ex : ∃ es n, K.lookup a = some ⟨.type "dict", none, .dict es n, #[]⟩ ∧ Ents P es.toList tab
  low : (a == sysModules) = false
def tget : List (Str × D) → Str → Option D
  | [], _ => none
  | p :: r, z => if p.1 = z then some p.2 else tget r z
theorem Ents.lit {P : Params} : ∀ {es : List DictEntry} {tab : List (Str × D)}, Ents P es tab → PySem.W.KeysLit P es
  | [], [], _ => True.intro
  | e :: r, (z, d) :: s, h => by
    obtain ⟨⟨t, e1⟩, e2, _, h⟩ := h
    exact ⟨⟨z, t, e1, e2⟩, Ents.lit h⟩
  | [], _ :: _, h => h.elim
  | _ :: _, [], h => h.elim
theorem Ents.find {P : Params} {k : Str} : ∀ {es : List DictEntry} {tab : List (Str × D)}, Ents P es tab → (match es.find? (·.key.isStr k) with
      | some e => ∃ d, tget tab k = some d ∧ LitD d e.val
      | none => tget tab k = none) ∧ es.any (·.refKey) = false
  | [], [], _ => ⟨rfl, rfl⟩
  | e :: r, (z, d) :: s, h => by
    obtain ⟨⟨t, e1⟩, e2, l, h⟩ := h
    obtain ⟨h1, h2⟩ := Ents.find (k := k) h
    have hk : e.key.isStr k = (z == k) := by rw [e1]; rfl
    refine ⟨?_, ?_⟩
    · rw [List.find?_cons]
      cases hz : (z == k) with
      | true =>
        rw [show (e.key.isStr k) = true from hk.trans hz]
        dsimp only
        exact ⟨d, by unfold tget; rw [if_pos (eq_of_beq hz)], l⟩
      | false =>
        rw [show (e.key.isStr k) = false from hk.trans hz]
        have : tget ((z, d) :: s) k = tget s k := by
          show (if z = k then some d else tget s k) = _
          rw [if_neg (by intro z2; rw [z2] at hz; simp at hz)]
        rw [this]
        exact h1
    · rw [List.any_cons, h2, Bool.or_false]
      unfold DictEntry.refKey
      rw [e1]
  | [], _ :: _, h => h.elim
  | _ :: _, [], h => h.elim
section
variable {X : Cx} {C : Cn} {a b e : Expr} {p pos : Pos} {x : Str} {A : Addr} {tab : List (Str × D)}
theorem KTab.ns {K : PySem.W.Frag} {P : Params} {k : Str} (T : KTab K P A tab) : (∀ d, tget tab k = some d → ∃ u, PySem.W.nsIn K A k = some (some u) ∧ LitD d u) ∧ (tget tab k = none → PySem.W.nsIn K A k = some none) := by
  obtain ⟨es, n, hl, he⟩ := T.ex
  obtain ⟨h1, h2⟩ := Ents.find (k := k) he
  unfold PySem.W.nsIn
  rw [hl]
  dsimp only
  cases ef : es.toList.find? (·.key.isStr k) with
  | some en =>
    rw [ef] at h1
    obtain ⟨d0, e0, l0⟩ := h1
    refine ⟨fun d hd => ⟨en.val, rfl, ?_⟩, fun hn => ?_⟩
    · rw [e0] at hd; cases hd; exact l0
    · rw [e0] at hn; cases hn
  | none =>
    rw [ef] at h1
    have h1 : tget tab k = none := h1
    refine ⟨fun d hd => (by rw [h1] at hd; cases hd), fun _ => ?_⟩
    dsimp only
    rw [h2]; rfl
theorem test_core {W : WX} {m : SS → O D} {τ : L2.St} {H : Hp} {Q : Bool → Hp → Prop} (h : tT C W (sB m) τ H Q) : tE C W m τ H fun x H' => ∃ k, x = .bl k ∧ Q k H' := by
  refine (tG_bind (R := fun _ => Rp C) h).mono fun v H1 ⟨d, r1, f1, G, σ, sr, p⟩ => ?_
  dsimp only at p
  split at p
  · exact ⟨_, r1.rb.bl, p _ H1 rfl sr (.refl _)⟩
  · exact p.elim
theorem LitD.rel {d : D} {u : Value} (l : LitD d u) : ∃ v, RelV v u ∧ ∀ (C : Cn) (H : Hp), Rp C H d v := by
  cases d with
  | int i => exact ⟨.int i, l, fun _ _ => .i⟩
  | str z => exact ⟨.str z, l, fun _ _ => .s⟩
  | _ => exact l.elim
/-- D[k] -/
def sKget (tab : List (Str × D)) (m : SS → O Hd) : SS → O D := fun σ => (m σ).bind fun h σ1 => match res σ1 h with
  | some (.str z) => ofOpt (tget tab z) σ1
  | _ => .bad
theorem me_kget {m : SS → O Hd} (T : KTab X.K X.w.params A tab) (hg : Gl X x) (hm : X.mg x = some (.ref A)) (h : MH X C e m) (hs : PlainIx e) (hdb : (x == ("__debug__" : Str)) = false := by decide) : ME X C (.Subscript (.Name x p) e pos) (sKget tab m) := by
  refine ⟨fun E W tk => (pe_ix (X := X.wish E) ix_kdict (pe_glob (X := X.wish E) (v := .ref A) hg hm rfl hdb) (h.pe E W tk) hs).imp fun τ H Q q => ?_⟩
  refine (tG_bind (R := RH C) q).mono fun v H1 ⟨d, r1, f1, G, σ, sr, p⟩ => ?_
  dsimp only at p
  split at p
  · rename_i z eq
    have := (sr.res r1 eq).str; subst this
    cases et : tget tab z with
    | none => rw [et] at p; exact p.elim
    | some d2 =>
      rw [et] at p
      obtain ⟨u, hu, l⟩ := (T.ns (k := z)).1 d2 et
      obtain ⟨v2, rv, rp⟩ := l.rel
      obtain ⟨es, n, hl, he⟩ := T.ex
      exact ⟨A, z, v2, rfl, rfl, ⟨es, n, u, hl, he.lit, hu, rv⟩, p v2 H1 (rp C H1) sr (.refl _)⟩
  · exact p.elim
/-- k in D -/
def sKin (tab : List (Str × D)) (m : SS → O Hd) : SS → O D := fun σ => (m σ).bind fun h σ1 => match res σ1 h with
  | some (.str z) => .ok (.bl (tget tab z).isSome) σ1
  | _ => .bad
theorem KTab.kd {K : PySem.W.Frag} {w : World} (T : KTab K w.params A tab) : ∃ es n, KDict K w A es n := by
  obtain ⟨es, n, hl, he⟩ := T.ex
  exact ⟨es, n, hl, he.lit, T.low⟩
theorem kin_core {K : PySem.W.Frag} {P : Params} (T : KTab K P A tab) {W : WX} {m : SS → O Hd} {τ : L2.St} {H : Hp} {Q : VK} (q : tE C W (sKin tab m) τ H Q) :
    tHd C W m τ H fun v H1 => ∃ (z : Str) (r : Option Value), v = .str z ∧ V.ref A = .ref A ∧ PySem.W.nsIn K A z = some r ∧ Q (.bl r.isSome) H1 := by
  refine (tG_bind (R := RH C) q).mono fun v H1 ⟨d, r1, f1, G, σ, sr, p⟩ => ?_
  dsimp only at p
  split at p
  · rename_i z eq
    have := (sr.res r1 eq).str; subst this
    cases et : tget tab z with
    | none =>
      rw [et] at p
      exact ⟨z, none, rfl, rfl, (T.ns (k := z)).2 et, p _ H1 .b sr (.refl _)⟩
    | some d2 =>
      rw [et] at p
      obtain ⟨u, hu, l⟩ := (T.ns (k := z)).1 d2 et
      exact ⟨z, some u, rfl, rfl, hu, p _ H1 .b sr (.refl _)⟩
  · exact p.elim
theorem me_kin {m : SS → O Hd} (T : KTab X.K X.w.params A tab) (hg : Gl X x) (hm : X.mg x = some (.ref A)) (h : MH X C a m) (hb : behindInMarks .In (.Name x p) = false := by rfl) (hdb : (x == ("__debug__" : Str)) = false := by decide) : ME X C (.Compare a [.In] [.Name x p] pos) (sKin tab m) := by
  obtain ⟨es, n, kd⟩ := T.kd
  exact ⟨fun E W tk => (pe_cmpR (X := X.wish E) (op_in_kd kd) (h.pe E W tk) (pe_glob (X := X.wish E) (v := .ref A) hg hm rfl hdb) hb).imp fun τ H Q q => kin_core T q⟩
theorem mt_kin {m : SS → O Hd} (T : KTab X.K X.w.params A tab) (hg : Gl X x) (hm : X.mg x = some (.ref A)) (h : MH X C a m) (hb : behindInMarks .In (.Name x p) = false := by rfl) (hdb : (x == ("__debug__" : Str)) = false := by decide) : MT X C (.Compare a [.In] [.Name x p] pos) (sB (sKin tab m)) := by
  obtain ⟨es, n, kd⟩ := T.kd
  exact ⟨fun E W tk => (pt_cmpR (X := X.wish E) (op_in_kd kd) (h.pe E W tk) (pe_glob (X := X.wish E) (v := .ref A) hg hm rfl hdb) hb).imp fun τ H Q q => kin_core T (test_core q)⟩
end

/-! ### k in d, a dict of one's own -/
section
variable {X : Cx} {C : Cn} {a : Expr} {p pos : Pos} {x : Str}
theorem op_in_own {n : Nat} (hr : TRoom n X.A) : OpR X (compareOp .In) (fun x y H Q => ∃ a kvs k, x = kV k ∧ y = .ref a ∧ H a = some (.dK kvs) ∧ Q (.bl (valV kvs k).isSome) H) := by
  intro pins s σ H x y v u Q I rx ry h
  obtain ⟨a, kvs, k, rfl, rfl, e, q⟩ := h
  cases ry
  have := hr.u64
  exact d_in (by omega) I (.k e) rx fun s' I' => ⟨.bl _, H, I', rfl, q⟩
def sDin (i : Nat) (m : SS → O D) : SS → O D := fun σ => (m σ).bind fun d σ1 => match curD σ1 i, keyOf d with
  | some kvs, some k => .ok (.bl (dget kvs k).isSome) σ1
  | _, _ => .bad
theorem din_core {W : WX} {m : SS → O D} {i : Nat} {τ : L2.St} {H : Hp} {Q : VK} (hi : τ.length = τ.length) (q : tE C W (sDin i m) τ H Q) :
    tE C W m τ H fun v H1 => ∃ w, τ[i]? = some (some w) ∧ ∃ a kvs k, v = kV k ∧ w = .ref a ∧ H1 a = some (.dK kvs) ∧ Q (.bl (valV kvs k).isSome) H1 := by
  refine (tG_bind (R := fun _ => Rp C) q).mono fun v H1 ⟨d, r1, f1, G, σ, sr, p⟩ => ?_
  dsimp only at p
  split at p
  · rename_i kvs k e1 e2
    obtain ⟨a, kvV, ea, eh, ek, rk, _⟩ := sr.curD e1
    refine ⟨.ref a, ea, a, kvV, k, keyOf_rp r1 e2, rfl, eh, ?_⟩
    obtain ⟨h1, h2⟩ := dget_rp (k := k) ek rk
    have e3 : (valV kvV k).isSome = (dget kvs k).isSome := by
      cases eg : dget kvs k with
      | none => rw [h2 eg]; rfl
      | some d => obtain ⟨w, ew, _⟩ := h1 d eg; rw [ew]; rfl
    rw [e3]
    exact p _ H1 .b sr (.refl _)
  · exact p.elim
theorem me_din {m : SS → O D} (i : Nat) (hN : X.N[i]? = some x) (hv : Vis X.env.scope x) {n : Nat} (hr : TRoom n X.A) (h : ME X C a m) (hb : behindInMarks .In (.Name x p) = false := by rfl) (hd : (x == ("__debug__" : Str)) = false := by decide) (hcd : (x == ("__classdict__" : Str)) = false := by decide) : ME X C (.Compare a [.In] [.Name x p] pos) (sDin i m) :=
  ⟨fun E W tk => (pe_cmpR (X := X.wish E) (op_in_own hr) (h.pe E W tk) (pv (X := X.wish E) i hN hv hd hcd) hb).imp fun τ H Q q => din_core rfl q⟩
theorem mt_din {m : SS → O D} (i : Nat) (hN : X.N[i]? = some x) (hv : Vis X.env.scope x) {n : Nat} (hr : TRoom n X.A) (h : ME X C a m) (hb : behindInMarks .In (.Name x p) = false := by rfl) (hd : (x == ("__debug__" : Str)) = false := by decide) (hcd : (x == ("__classdict__" : Str)) = false := by decide) : MT X C (.Compare a [.In] [.Name x p] pos) (sB (sDin i m)) :=
  ⟨fun E W tk => (pt_cmpR (X := X.wish E) (op_in_own hr) (h.pe E W tk) (pv (X := X.wish E) i hN hv hd hcd) hb).imp fun τ H Q q => din_core (Q := fun x H' => ∃ k, x = .bl k ∧ Q k H') rfl (test_core q)⟩
end

/-! ### range(a, b, c) -/
def steps (lo c : Int) (n : Nat) : List D := (List.range n).map fun i : Nat => .int (lo + (i : Int) * c)
def rgOk (i j c : Int) : Bool := decide (c ≠ 0) && decide (c.natAbs < 1073741824) && Builtin.Range.small i j c && decide (0 ≤ Builtin.Range.rangeSize i j c)
def sRngC (m n o : SS → O D) : SS → O (List D) := fun σ => (m σ).bind fun d σ1 => (n σ1).bind fun d2 σ2 => (o σ2).bind fun d3 σ3 => match d, d2, d3 with
  | .int i, .int j, .int k => if rgOk i j k = true then .ok (steps i k (Builtin.Range.rangeSize i j k).toNat) σ3 else .bad
  | _, _, _ => .bad
section
variable {X : Cx} {C : Cn} {pos p1 : Pos} {tg : Expr}
theorem itok_steps {H1 : Hp} {lo c : Int} {n : Nat} : ItOk C (Itc lo c n) H1 (steps lo c n) := by
  have hl : (steps lo c n).length = n := by simp [steps]
  refine ⟨fun i H f hi => by rw [hl] at hi; exact hi, fun i H x H' f hi y => ?_, fun H f => by rw [hl]; exact Nat.le_refl _⟩
  obtain ⟨e1, e2⟩ := y
  subst e1 e2
  rw [hl] at hi
  refine ⟨.refl _, .int (lo + (i : Int) * c), ?_, .i⟩
  unfold steps
  rw [List.getElem?_map, List.getElem?_range hi]; rfl
theorem mi_rangeC {a b c : Expr} {m n o : SS → O D} (hg : Gl X "range") (hm : X.mg "range" = none) (h : ME X C a m) (g : ME X C b n) (kc : ME X C c o)
    (hs : starEach [a, b, c] X.env = (false, eval a X.env) :: starEach [b, c] X.env := by rfl) (hs1 : starEach [b, c] X.env = (false, eval b X.env) :: starEach [c] X.env := by rfl) (hs2 : starEach [c] X.env = (false, eval c X.env) :: starEach [] X.env := by rfl) (hpl : (backTo pos (starEach [b, c] X.env)).any (·.1) = false := by rfl) :
    MI X C tg (.Call (.Name "range" p1) [a, b, c] [] pos) (sRngC m n o) := by
  refine ⟨fun E W tk => (pi_range3 (X := X.wish E) hg hm (pa_cons (h.pe E W tk) (pa_cons (g.pe E W tk) (pa_cons (kc.pe E W tk) pa_nil hs2) hs1) hs) hs hpl).imp fun τ H R q => ?_⟩
  refine (tG_bind (R := fun _ => Rp C) q).mono fun x H1 ⟨d, r1, f1, q1⟩ => ?_
  refine (tG_bind (R := fun _ => Rp C) q1).mono fun y H2 ⟨d2, r2, f2, q2⟩ => ?_
  refine (tG_bind (R := fun _ => Rp C) q2).mono fun z H3 ⟨d3, r3, f3, G, σ, sr, p⟩ => ?_
  dsimp only at p
  split at p
  · rename_i i0 j0 k0
    split at p
    · rename_i hj
      unfold rgOk at hj
      simp only [Bool.and_eq_true, decide_eq_true_eq] at hj
      obtain ⟨⟨⟨h1, h2⟩, h3⟩, h4⟩ := hj
      have := r1.rb.int; subst this
      have := r2.rb.int; subst this
      have := r3.rb.int; subst this
      exact ⟨_, _, _, _, rfl, ⟨h1, h2, h3, (Int.toNat_of_nonneg h4).symm⟩, p _ H3 itok_steps sr (.refl _)⟩
    · exact p.elim
  · exact p.elim
end

/-! ### what is never reached -/
section
variable {X : Cx} {C : Cn} {e : Expr} {st : Stmt}
def sBad {β : Type} : SS → O β := fun _ => .bad
def sBadS : SS → OS := fun _ => .bad
theorem me_bad : ME X C e sBad := ⟨fun E W tk => ⟨fun p s τ H Q I ⟨G, σ, sr, z⟩ => z.elim⟩⟩
theorem ms_bad : MS X C st sBadS := ⟨fun E W tk pw => ⟨fun p s τ H D' I ⟨G, σ, sr, z⟩ => z.elim⟩⟩
theorem mss_bad {sts : List Stmt} : MSs X C sts sBadS := ⟨fun E W tk pw => ⟨fun p s τ H D' I ⟨G, σ, sr, z⟩ => z.elim⟩⟩
/-- e.f of an exception, caught or made -/
def sFldB (fs : Nat → Bool) (m : SS → O Hd) : SS → O D := fun σ => (m σ).bind fun h σ1 => match res σ1 h with
  | some (.exc c d) => if fs c then .ok d σ1 else .bad
  | _ => .bad
end
end TL

set_option Elab.async false
set_option linter.all false
set_option maxRecDepth 100000
set_option maxHeartbeats 4000000
/-! TL33: try with clauses of several classes. -/
namespace TL
open PySem PySem.Spec PyProof.Rows L2

theorem flyZ_keeps {B h h' : Heap} {l : List Env} {e : Addr} {Z : Obj → Prop} (R : HandSPX.FlyingZ B l e Z h) (k : ∀ b o, h.get? b = some o → h'.get? b = some o) : HandSPX.FlyingZ B l e Z h' := by
  obtain ⟨f1, f2, f3, oe, vs, T, oT, ts, he, hz, hd, h1, hnT, hTe, hT, hdT, h3⟩ := R
  exact ⟨fun b o q => k b o (f1 b o q), f2, f3.of_keeps fun b o q _ => ⟨o, k b o q, rfl⟩, oe, vs, T, oT, ts, k _ _ he, hz, hd, h1, hnT, hTe, k _ _ hT, hdT, h3⟩
/-- what a clause asks for -/
inductive TstOk (X : Cx) (C : Cn) : Expr → (Nat → Option Bool) → Prop
  | one {x : Str} {c : Value} {q : Nat → Option Bool} {np : Pos} (hc : Names X x c) (hq : ∀ i b, q i = some b → PySem.W.exmOne X.K (.ref (C.ca i)) c = some b) : TstOk X C (.Name x np) q
  | two {x1 x2 : Str} {c1 c2 : Value} {q : Nat → Option Bool} {p1 p2 tp : Pos} {kk : Nat} (h1 : Names X x1 c1) (h2 : Names X x2 c2) (hq : ∀ i b, q i = some b → PySem.W.exmAny X.K (.ref (C.ca i)) [c1, c2] = some b) : TstOk X C (.Tuple [.Name x1 p1, .Name x2 p2] kk tp) q
  | three {x1 x2 x3 : Str} {c1 c2 c3 : Value} {q : Nat → Option Bool} {p1 p2 p3 tp : Pos} {kk : Nat} (h1 : Names X x1 c1) (h2 : Names X x2 c2) (h3 : Names X x3 c3) (hq : ∀ i b, q i = some b → PySem.W.exmAny X.K (.ref (C.ca i)) [c1, c2, c3] = some b) : TstOk X C (.Tuple [.Name x1 p1, .Name x2 p2, .Name x3 p3] kk tp) q
section
variable {X : Cx} {C : Cn} {E : Value → Shared → Prop} {pins : List (Addr × Obj)} {τ : L2.St} {H : Hp} {s : Shared} {B : Heap} {l : List Env} {a dd : Addr} {i : Nat} {t : Expr} {q : Nat → Option Bool} {k : Bool} {A' : Around} {E' : Value → Shared → Prop} {Q : Bool → Shared → Prop}
theorem names_ld {x : Str} {c : Value} {np : Pos} {Q : Value → Shared → Prop} (I : Inv (X.wish E) pins τ H s) (hc : Names X x c) (h : Q c s) : wpAny (model X.prog X.w) (X.A.mark (some (.ref a))) (eval (.Name x np) X.env) Q E' s := by
  obtain ⟨hg, hdbg, hm | ⟨hm, hv, hnn⟩⟩ := hc
  · exact ld_glob (X := (X.wish E).suite a ((X.wish E).pn ++ pins)) (TL.Inv.suite0 I a) hg hm h hdbg
  · exact ld_blt (X := (X.wish E).suite a ((X.wish E).pn ++ pins)) (TL.Inv.suite0 I a) hg hm hv h hnn hdbg
theorem TstOk.run (T : TstOk X C t q) (I : Inv (X.wish E) pins τ H s) (fl : HandSPX.FlyingZ B l a (Zc (.ref (C.ca i)) (some dd)) s.heap) (_z : ∀ b : Bool, b = b → b = b) (e : q i = some k) (h : ∀ h', (∀ b o, s.heap.get? b = some o → h'.get? b = some o) → Q k { s with heap := h' }) :
    wpAny (model X.prog X.w) (X.A.mark (some (.ref a))) (eval t X.env) (fun c s1 => wpAny (model X.prog X.w) (X.A.mark (some (.ref a))) (excMatches (.ref a) c) Q E' s1) E' s := by
  obtain ⟨oe, vs, he, hz, hd⟩ := fl.there
  have LT : PySem.W.Looks (model X.prog X.w) s.heap (typeOf (.ref a)) (.ref (C.ca i)) := fun A Q E s1 k q => wpAny_typeOf_ref (k _ _ he) (by rw [hz.1]; exact q)
  cases T with
  | one hc hq => exact names_ld I hc ((PySem.W.exm_one (M := model X.prog X.w) I.kIn LT (hq _ _ e)).here (h s.heap fun _ _ z => z))
  | @two x1 x2 c1 c2 q p1 p2 tp kk h1 h2 hq =>
    refine PySem.wpAny_Tuple ?_
    refine wpAny_items_cons (names_ld I h1 ?_)
    refine wpAny_items_cons (names_ld I h2 ?_)
    refine wpAny_items_nil ⟨by size_fits, ?_⟩
    have kp : ∀ b o, s.heap.get? b = some o → (s.heap.push { cls := .type "tuple", data := .seq [c1, c2].toArray }).get? b = some o := fun b o z => Heap.get?_push_of_some _ z
    exact (PySem.W.exm_tup2 (I.kIn.keeps kp) (LT.keeps kp) (Heap.get?_push_size s.heap rfl) (hq _ _ e)).here (h _ kp)
  | @three x1 x2 x3 c1 c2 c3 q p1 p2 p3 tp kk h1 h2 h3 hq =>
    refine PySem.wpAny_Tuple ?_
    refine wpAny_items_cons (names_ld I h1 ?_)
    refine wpAny_items_cons (names_ld I h2 ?_)
    refine wpAny_items_cons (names_ld I h3 ?_)
    refine wpAny_items_nil ⟨by size_fits, ?_⟩
    have kp : ∀ b o, s.heap.get? b = some o → (s.heap.push { cls := .type "tuple", data := .seq [c1, c2, c3].toArray }).get? b = some o := fun b o z => Heap.get?_push_of_some _ z
    exact (PySem.W.exm_tup3 (I.kIn.keeps kp) (LT.keeps kp) (Heap.get?_push_size s.heap rfl) (hq _ _ e)).here (h _ kp)
end
inductive HnT (X : Cx) (C : Cn) : List ExceptHandler → List Hnd → Prop
  | nil : HnT X C [] []
  | as_ {t : Expr} {n : Str} {i : Nat} {q : Nat → Option Bool} {m : SS → OS} {b0 : Stmt} {suite : List Stmt} {pos' : Pos} {hds : List ExceptHandler} {l : List Hnd} (ht : TstOk X C t q) (hi : X.N[i]? = some n) (hln : X.env.kindOf n = some .local)
      (hsu : ∀ (a : Addr) (pn : List (Addr × Obj)), MSs (X.suite a pn) C (b0 :: suite) m) (r : HnT X C hds l) : HnT X C (.ExceptHandler (some t) (some n) (b0 :: suite) pos' :: hds) (⟨q, some i, m⟩ :: l)
  | no_ {t : Expr} {q : Nat → Option Bool} {m : SS → OS} {b0 : Stmt} {suite : List Stmt} {pos' : Pos} {hds : List ExceptHandler} {l : List Hnd} (ht : TstOk X C t q)
      (hsu : ∀ (a : Addr) (pn : List (Addr × Obj)), MSs (X.suite a pn) C (b0 :: suite) m) (r : HnT X C hds l) : HnT X C (.ExceptHandler (some t) none (b0 :: suite) pos' :: hds) (⟨q, none, m⟩ :: l)
section
variable {X : Cx} {C : Cn} {body : List Stmt} {h0 : ExceptHandler} {hds : List ExceptHandler} {l : List Hnd} {pos : Pos} {b : SS → OS}
theorem ms_tryT (hst : X.stack = X.env :: X.outer) (hfm : X.env.frame = some X.env.locals) (hex : X.ex = []) (hN : X.N.Nodup) (hK : X.K = C.K) (hb : ∀ (pn : List (Addr × Obj)), MSs (X.tr pn X.xe) C body b) (hh : HnT X C (h0 :: hds) l) : MS X C (.Try body (h0 :: hds) [] [] pos) (sTry b l) := by
  refine ⟨fun E W tk pw => ⟨fun pins s τ H D' I h => ?_⟩⟩
  have ok := I.ok
  have hfr : (X.wish E).A.frames = some ((X.wish E).env :: (X.wish E).outer) := by rw [ok.frames]; exact congrArg some hst
  refine wpAny_Try_except ?_
  refine wpAny_mono (((hb ((X.wish E).pn ++ pins)).ps (fun e s₁ => wpAny (model X.prog X.w) X.A (noteFrame e X.env) (fun _ s₂ => wpAny (model X.prog X.w) X.A (setFlight e none) (fun _ s₃ =>
    wpAny (model X.prog X.w) X.A (handleBy e X.env (h0 :: hds)) (SP (X.wish E) pins D') (X.wish E).xe s₃) (X.wish E).xe s₂) (X.wish E).xe s₁) (wHn C W D' l) (fun u s' xx => ?_) PassesOwn.looking).run [] s τ H D' (I.toTry _) (try_core h)) (fun f s1 hsp => ?_) (fun e s1 he => he)
  · obtain ⟨a, B, sI, pins', σ', H', cls, d, rfl, J', nb, up, sky, na, os, ag, G, σs, x, rx, sr, p⟩ := xx
    have J : Inv (X.wish E) pins σ' H' sI := J'.ofTry ok
    have sky' : Sky B (X.env :: X.outer) a (Zc cls d) X.env.locals s'.heap := by rw [← hst]; exact sky
    show wpAny (model X.prog X.w) X.A (noteFrame (.ref a) X.env) _ _ _
    refine Sky.land Zc.steady hfr hfm sky' fun h3 fl3 up3 => ?_
    have J3 : Inv (X.wish E) pins σ' H' { s' with heap := h3 } := J.landed nb fl3.1 (up.trans up3) os ag
    obtain ⟨oe3, vs3, he3, hz3, hd3⟩ := fl3.there
    have apart : ∀ {h : Heap} {o : Obj} {vs : Array Value}, h.FunFrames B (X.env :: X.outer) → h.get? a = some o → o.data = .fields vs → a ∉ frs (X.env :: X.outer) := fun {h o vs} ff e dd hm => by
      obtain ⟨_, o', e', hnf⟩ := ff.mem hm
      rw [e] at e'; cases e'; exact hnf _ dd
    have nfr := apart fl3.2.2.1 he3 hd3
    have nL : a ≠ X.env.locals := fun z => nfr (List.mem_filterMap.mpr ⟨X.env, List.mem_cons_self, by rw [hfm, z]⟩)
    have nI : sI.heap.get? a = none := by
      cases q : sI.heap.get? a with
      | none => rfl
      | some o =>
        have := nb a o q (by rw [show (X.wish E).stack = X.env :: X.outer from hst]; exact nfr)
        rw [fl3.2.1] at this; cases this
    have n0 : X.s_0.heap.get? a = none := by
      cases q : X.s_0.heap.get? a with
      | none => rfl
      | some o =>
        obtain ⟨o', e'⟩ := J.base.there a o q (by rw [show (X.wish E).ex = [] from hex]; simp)
        rw [nI] at e'; cases e'
    have nP : ∀ p ∈ (X.wish E).pn ++ pins, p.1 ≠ a := fun p hp z => by
      obtain ⟨q, _⟩ := J.pin p hp
      rw [z, nI] at q; cases q
    have nC : ∀ y c, X.env.cells.lookup y = some c → c ≠ a := fun y c e z => by
      obtain ⟨v, ob, q, _⟩ := J.cell y c e
      rw [z, nI] at q; cases q
    obtain ⟨ecls, dd, fs, v0, rfl, hdd, hlk, rv0⟩ := rx
    subst ecls
    have sm : Same H' (upd H' a (C.eo x.c a dd)) := same_new na
    have rv : Rp C (upd H' a (C.eo x.c a dd)) (.exc x.c x.d) (.ref a) := by
      simp only [Rp]
      exact ⟨a, dd, v0, fs, rfl, upd_same, sm _ _ hdd, hlk, rv0.fx (.of_same sm)⟩
    have sr2 := sr.same sm
    -- at any heap that it flies over, the object is a value
    have tracked : ∀ h, HandSPX.FlyingZ B (X.env :: X.outer) a (Zc (.ref (C.ca x.c)) (some dd)) h → s'.heap.UpToSlots h → Inv (X.wish E) pins σ' (upd H' a (C.eo x.c a dd)) { s' with heap := h } := fun h fl u => by
      have K := J.landed (s' := { s' with heap := h }) nb fl.1 (up.trans u) os ag
      obtain ⟨oe, vs, he, hz, hd⟩ := fl.there
      exact TL.Inv.track K na n0 nL nC nP (exH_ok he hz hd)
    have J5 := tracked h3 fl3 up3
    have go : ∀ {hds' : List ExceptHandler} {l' : List Hnd}, HnT X C hds' l' → ∀ h, HandSPX.FlyingZ B (X.env :: X.outer) a (Zc (.ref (C.ca x.c)) (some dd)) h → s'.heap.UpToSlots h → PostS C W G σ' H' (sHnds l' x σs) D' →
        wpAny (model X.prog X.w) X.A (handleBy (.ref a) X.env hds') (SP (X.wish E) pins D') (X.wish E).xe { s' with heap := h } := by
      intro hds' l' hk
      induction hk with
      | nil =>
        intro h fl uph w
        refine wpAny_handleBy_nil ?_
        obtain ⟨k1, k2, k3, oe, vs, T, oT, ts', he, hz, hd, h1, hr⟩ := id fl
        unfold PySem.passOn; refine wpAny_bind (wpAny_field he hd h1 ?_)
        rw [if_neg (show ¬ ((Value.ref T == Value.none) = true) from by simp)]
        have fin : wpAny (model X.prog X.w) X.A (setFlight (.ref a) X.env.frame) (fun _ s4 => wpAny (model X.prog X.w) X.A (throw (.ref a) : Sem Flow) (SP (X.wish E) pins D') (X.wish E).xe s4) (X.wish E).xe { s' with heap := h } := by
          rw [hfm]
          refine HandSPX.setFlight_upZ fl fun h4 hh4 up4 => wpAny_throw (tk _ _ ?_)
          refine ⟨a, B, sI, pins, σ', H', _, _, rfl, J, nb, (up.trans uph).trans up4, .inr (.inr (by rw [show (X.wish E).stack = X.env :: X.outer from hst]; exact hh4)), na, os, ag, ?_⟩
          exact w _ _ σ' H' ⟨rfl, dd, fs, v0, rfl, hdd, hlk, rv0⟩ sr (.refl _)
        first | exact wpAny_bind (wpAny_pure (wpAny_bind fin)) | exact wpAny_bind fin
      | @as_ t n i q m b0 suite pos' hds2 l2 ht hi hln hsu r ih =>
        intro h fl uph w
        cases eq : q x.c with
        | none => have w : PostS C W G σ' _ (match q x.c with | some true => clrO (some i) (m (setO σs (.exc x.c x.d) (some i))) | some false => sHnds l2 x σs | none => .bad) D' := w; rw [eq] at w; exact w.elim
        | some k =>
          have w : PostS C W G σ' _ (match q x.c with | some true => clrO (some i) (m (setO σs (.exc x.c x.d) (some i))) | some false => sHnds l2 x σs | none => .bad) D' := w
          rw [eq] at w
          refine wpAny_handleBy_cons (codeAny_handlers_test ?_) (by intro z; cases z)
          refine ht.run (tracked h fl uph) fl (fun b e => e) eq fun h3 kp => ?_
          have fl3 := flyZ_keeps fl kp
          have up3 : s'.heap.UpToSlots h3 := uph.trans (Heap.UpToSlots.of_keeps kp)
          cases k with
          | false => exact ih h3 fl3 up3 w
          | true =>
            refine codeAny_handlers_suite_as (HandSPX.lands_againZ fl3 fun h4 fl4 up4 => ?_)
            have S4 := TL.Inv.suite0 (tracked h4 fl4 (up3.trans up4)) a
            refine store_ok (X := (X.wish E).suite a ((X.wish E).pn ++ pins)) (v := .ref a) S4 hN hi (.inl hln) rfl (fun s5 S5 => ?_) (.inr hln)
            refine wpAny_mono (((hsu a ((X.wish E).pn ++ pins)).ps (fun _ _ => False) (fun _ _ _ _ => False) takes_no PassesOwn.never).run [] s5 _ _ _ S5 (suite_core (W := W) (D' := D') (n := some i) sr2 rv (PostS.fx (τ' := σ') w (.of_same sm)))) (fun f s6 hsp => ?_) (fun _ _ z => False.elim z)
            have over : ∀ {σ6 : L2.St} {H6 : Hp} {Q : Shared → Prop}, Inv ((X.wish E).suite a ((X.wish E).pn ++ pins)) [] σ6 H6 s6 → (∀ s7, Inv (X.wish E) pins (σ6.set i none) H6 s7 → Q s7) →
                wpAny (model X.prog X.w) X.A (do bindName X.env n .none; unbindBehindTheSuite X.env n pos') (fun _ s7 => Q s7) (X.wish E).xe s6 := fun {σ6 H6 Q} S6 hq => gone_ok (X := X.wish E) (TL.Inv.unsuite0 S6 ok) hN hi hln hq
            cases f with
            | next => obtain ⟨σ6, H6, S6, q6⟩ := hsp; exact over S6 fun s7 J7 => ⟨_, _, J7, q6⟩
            | brk => obtain ⟨σ6, H6, S6, q6⟩ := hsp; exact over S6 fun s7 J7 => ⟨_, _, J7, q6⟩
            | cont => obtain ⟨σ6, H6, S6, q6⟩ := hsp; exact over S6 fun s7 J7 => ⟨_, _, J7, q6⟩
            | ret u => obtain ⟨v6, σ6, H6, S6, r6, q6⟩ := hsp; exact over S6 fun s7 J7 => ⟨_, _, _, J7, r6, q6⟩
      | @no_ t q m b0 suite pos' hds2 l2 ht hsu r ih =>
        intro h fl uph w
        cases eq : q x.c with
        | none => have w : PostS C W G σ' _ (match q x.c with | some true => clrO none (m (setO σs (.exc x.c x.d) none)) | some false => sHnds l2 x σs | none => .bad) D' := w; rw [eq] at w; exact w.elim
        | some k =>
          have w : PostS C W G σ' _ (match q x.c with | some true => clrO none (m (setO σs (.exc x.c x.d) none)) | some false => sHnds l2 x σs | none => .bad) D' := w
          rw [eq] at w
          refine wpAny_handleBy_cons (codeAny_handlers_test ?_) (by intro z; cases z)
          refine ht.run (tracked h fl uph) fl (fun b e => e) eq fun h3 kp => ?_
          have fl3 := flyZ_keeps fl kp
          have up3 : s'.heap.UpToSlots h3 := uph.trans (Heap.UpToSlots.of_keeps kp)
          cases k with
          | false => exact ih h3 fl3 up3 w
          | true =>
            refine codeAny_handlers_suite (HandSPX.lands_againZ fl3 fun h4 fl4 up4 => ?_)
            have S4 := TL.Inv.suite0 (tracked h4 fl4 (up3.trans up4)) a
            refine wpAny_mono (((hsu a ((X.wish E).pn ++ pins)).ps (fun _ _ => False) (fun _ _ _ _ => False) takes_no PassesOwn.never).run [] _ _ _ _ S4 (suite_core (W := W) (D' := D') (n := none) sr2 rv (PostS.fx (τ' := σ') w (.of_same sm)))) (fun f s6 hsp => ?_) (fun _ _ z => False.elim z)
            cases f with
            | next => obtain ⟨σ6, H6, S6, q6⟩ := hsp; exact ⟨_, _, TL.Inv.unsuite0 S6 ok, q6⟩
            | brk => obtain ⟨σ6, H6, S6, q6⟩ := hsp; exact ⟨_, _, TL.Inv.unsuite0 S6 ok, q6⟩
            | cont => obtain ⟨σ6, H6, S6, q6⟩ := hsp; exact ⟨_, _, TL.Inv.unsuite0 S6 ok, q6⟩
            | ret u => obtain ⟨v6, σ6, H6, S6, r6, q6⟩ := hsp; exact ⟨_, _, _, TL.Inv.unsuite0 S6 ok, r6, q6⟩
    exact go hh h3 fl3 up3 p
  · cases f with
    | next =>
      obtain ⟨σ', H', J', q⟩ := hsp
      exact wpAny_execs_nil ⟨σ', H', J'.ofTry ok, q⟩
    | brk =>
      obtain ⟨σ', H', J', q⟩ := hsp
      exact ⟨σ', H', J'.ofTry ok, q⟩
    | cont =>
      obtain ⟨σ', H', J', q⟩ := hsp
      exact ⟨σ', H', J'.ofTry ok, q⟩
    | ret u =>
      obtain ⟨v, σ', H', J', r, q⟩ := hsp
      exact ⟨v, σ', H', J'.ofTry ok, r, q⟩
end
end TL

set_option Elab.async false
set_option linter.all false
set_option maxRecDepth 100000
set_option maxHeartbeats 4000000
/-! TL34: lambdas with one parameter that has an int as its default and is not used: lambda x=0: e. -/
namespace TL
open PySem PySem.Spec PyProof.Rows L2
/-- its names: captured ones, globals, one that is bound and not the maker's -/
structure LamD (sc scope : Scope) (N : List Str) (z : Str) : Prop where
  kind : scope.kind = .function
  co : scope.isCoroutine = false
  gen : scope.isGenerator = false
  own : ∀ y ∈ scope.names, (y.2 = .local → y.1 ∉ N) ∧ y.2 ≠ .cell
  hz : scope.names.lookup z = some .local
  free : ∀ y ∈ scope.names, y.2 = .free → sc.names.lookup y.1 = some .cell ∨ sc.names.lookup y.1 = some .free
def lamDB (sc scope : Scope) (N : List Str) (z : Str) : Bool :=
  decide (scope.kind = .function) && !scope.isCoroutine && !scope.isGenerator && decide (scope.names.lookup z = some .local) && scope.names.all fun y => (!decide (y.2 = .local) || !(N.contains y.1)) && !decide (y.2 = .cell) && (!decide (y.2 = .free) || decide (sc.names.lookup y.1 = some .cell) || decide (sc.names.lookup y.1 = some .free))
theorem lamD_by {sc scope : Scope} {N : List Str} {z : Str} (h : lamDB sc scope N z = true) : LamD sc scope N z := by
  unfold lamDB at h
  simp only [Bool.and_eq_true, Bool.or_eq_true, Bool.not_eq_true', decide_eq_true_eq, decide_eq_false_iff_not, List.all_eq_true] at h
  obtain ⟨⟨⟨⟨h1, h2⟩, h3⟩, hz⟩, h4⟩ := h
  refine ⟨h1, h2, h3, fun y hy => ⟨fun e hn => ?_, (h4 y hy).1.2⟩, hz, fun y hy e => ?_⟩
  · rcases (h4 y hy).1.1 with q | q
    · exact q e
    · rw [List.contains_iff_mem.mpr hn] at q; cases q
  · rcases (h4 y hy).2 with (q | q) | q
    · exact absurd e q
    · exact .inl q
    · exact .inr q
theorem LamD.has {X : Cx} {scope : Scope} {N : List Str} {z : Str} (L : LamD X.env.scope scope N z) (ok : X.Ok) : ∀ y ∈ scope.names, y.2 = .free → ∃ c, X.env.cells.lookup y.1 = some c := fun y hy e => by
  rcases L.free y hy e with k | k
  · exact ok.has _ (.inl k)
  · exact ok.has _ (.inr k)
section
variable {X : Cx} {pins : List (Addr × Obj)} {σ : L2.St} {H HZ : Hp} {s s1 : Shared}
theorem lam_startD {A : Around} {outer : List Env} {E : XK} {scope : Scope} {f c' : Addr} {h₁ : Heap} {tk : Nat} {z : Str} {bs : List (Str × Value)} (I : Inv X pins σ H s) (L : LamD X.env.scope scope X.N z) (e0 : Env0 X.prog X.w X.K X.mg X.base A outer s1 HZ) (hd : A.handled = none)
    (un : Un (frs X.stack) [] H HZ s.heap s1.heap) (hns : h₁.Ns s1.heap.objs.size fun y => bs.reverse.lookup y) (kp : ∀ b o, s1.heap.get? b = some o → h₁.get? b = some o) :
    Inv (LamX.lamCx X A outer s1 HZ E scope f c') [] σ HZ { s1 with heap := h₁, toks := tk } := by
  have has := L.has I.ok
  have up : ∀ {y c}, (cloFrom X.env.cells scope.names []).lookup y = some c → X.env.cells.lookup y = some c := fun {y c} e => by
    rcases cloFrom_mem (PySem.mem_of_lookup e) with hm | ⟨h1, h2⟩
    · cases hm
    · obtain ⟨c1, hc⟩ := has _ h1 rfl
      have hc : X.env.cells.lookup y = some c1 := hc
      have e2 : c = c1 := by
        rw [h2, hc] <;> rfl
      subst e2
      exact hc
  have got : ∀ {y}, scope.names.lookup y = some .free → ∃ c, (cloFrom X.env.cells scope.names []).lookup y = some c := fun {y} hl =>
    mem_lookup (cloFrom_has (cells := X.env.cells) (acc := []) (show (y, NameKind.free) ∈ scope.names from PySem.mem_of_lookup hl))
  have cellK : ∀ {c : Addr} {v : Option Value}, H c = none → s.heap.IsCell c v → h₁.IsCell c v := fun {c v} n ⟨o, ho, hd⟩ => by
    obtain ⟨sl, q⟩ := un.any ho n (by simp)
    exact ⟨_, kp _ _ q, hd⟩
  have noA : ∀ b : Addr, b ∉ (LamX.lamCx X A outer s1 HZ E scope f c').ex := fun b q => absurd (show b ∈ ([] : List Addr) from q) (by simp)
  refine ⟨⟨e0.mod, L.kind, rfl, rfl, Nat.le_refl _, fun y z c e1 e2 => I.ok.inj y z c (up e1) (up e2), fun y hy => ?_, fun y c q _ => (by cases (show false = true from q)), fun _ => hd, Around.frames_deeper e0.frames, .inr ⟨rfl, rfl⟩, fun b q => absurd q (noA b), e0.bs, e0.bsz, fun b _ _ => noA b,
      fun b q => absurd q (noA b), e0.funs, e0.frf⟩,
    rfl, e0.bare, Un.kept kp, ⟨_, hns, fun i y v e1 e2 e3 => ?_⟩, fun y c e => ?_, e0.hok.fresh (Nat.le_refl _), fun y c e => ?_, fun q hq => absurd (show q ∈ ([] : List (Addr × Obj)) ++ [] from hq) (by simp), e0.hok.kept kp, I.len⟩
  · rcases (show scope.names.lookup y = some .cell ∨ scope.names.lookup y = some .free from hy) with hy | hy
    · exact absurd rfl (L.own _ (PySem.mem_of_lookup hy)).2
    · exact got hy
  · rcases (show Vis scope y from e3) with k | k | k
    · exact absurd (List.mem_of_getElem? e1) ((L.own _ (PySem.mem_of_lookup k)).1 rfl)
    · exact absurd rfl (L.own _ (PySem.mem_of_lookup k)).2
    · obtain ⟨m, hn, hl⟩ := I.loc
      have hvis : Vis X.env.scope y := (L.free _ (PySem.mem_of_lookup k) rfl).elim (fun k => .inr (.inl k)) (fun k => .inr (.inr k))
      obtain ⟨w', r, q⟩ := hl i y v e1 e2 hvis
      obtain ⟨c2, h2⟩ := got k
      refine ⟨w', r, .inr ⟨.inr k, c2, h2, ?_⟩⟩
      have c1 := up h2
      rcases q with ⟨k', _⟩ | ⟨_, c3, e', q⟩
      · have k' : X.env.scope.names.lookup y = some .local := k'
        rcases L.free _ (PySem.mem_of_lookup k) rfl with k2 | k2 <;> rw [show X.env.scope.names.lookup y = _ from k2] at k' <;> cases k'
      · rw [c1] at e'
        cases e'
        exact cellK (I.freeC y _ c1) q
  · obtain ⟨w', q⟩ := I.cell y c (up e)
    exact ⟨w', cellK (I.freeC y c (up e)) q⟩
  · obtain ⟨v, o, ho, hd⟩ := I.cell y c (up e)
    exact un.free c o ho (I.freeC y c (up e)) (by simp)
/-- it is made, with its default -/
theorem lam_makeD {T : List (Addr × Str)} {c P : Addr} {params : Arguments} {body : Expr} {scope : Scope} {pos dp : Pos} {dj : Nat} {dn : Int} {E : Value → Shared → Prop} {Q : Value → Shared → Prop} (I : Inv X pins σ H s) (TB : LamX.TabB X.base X.mg c P) (hcode : X.env.code = .ref c)
    (hm : (P, X.env.qual ++ "<lambda>") ∈ T) (hu : ∀ p ∈ T, p.1 = P → p.2 = X.env.qual ++ "<lambda>") (hT : LamX.Tabs T H) (hdef : params.defaults = [.Constant (.int dn) dj dp]) (hkd : params.kw_defaults = []) (hfree : ∀ y ∈ scope.names, y.2 = .free → ∃ c, X.env.cells.lookup y.1 = some c)
    (h : ∀ (f c' T0 : Addr) (u0 doc pm ctv : Value) (H1 : Hp) (s' : Shared), Inv X pins σ H1 s' → LamX.ExtN H H1 → LamX.Tabs T H1 →
      s'.heap.get? f = some (PySem.W.kdv_obj "<lambda>" (X.env.qual ++ "<lambda>") params (.expr body) scope (cloFrom X.env.cells scope.names []) (.ref T0) doc pm c' ctv) → s'.heap.get? T0 = some (PySem.W.kdv_tup [u0]) → H1 f = none → H1 T0 = none → f ∉ frs X.stack → T0 ∉ frs X.stack → H1 c' = some (LamX.CodeO c' (X.env.qual ++ "<lambda>")) → Q (.ref f) s') :
    wpAny (model X.prog X.w) X.A (eval (.Lambda params body scope pos) X.env) Q E s := by
  refine PySem.W.kdv_lam (by rw [hdef]; rfl) hkd ?_
  rw [hdef]
  refine PySem.W.kdv_all1 (wpAny_mono ((pe_int (X := X.wish E) (i := dn) (j := dj) (pos := dp)).run pins s σ H (fun v H1 => v = .int dn ∧ H1 = H) (I.wish E) ⟨rfl, rfl⟩) (fun u0 s1 hq => ?_) fun _ _ z => z)
  obtain ⟨v, H1, I1, r1, q1, q2⟩ := hq
  subst q1; rw [q2] at I1
  have I1 : Inv X pins σ H s1 := I1.unwish
  refine PySem.W.kdv_all0 ?_
  rw [makeFunction_eq]
  simp only [List.zip_nil_right, List.filterMap_nil, List.isEmpty_nil, List.isEmpty_cons, if_true, pure_bind, Bool.false_eq_true, if_false]
  refine wpAny_bind (wpAny_newTextTuple ?_)
  have hsz0 : (s1.heap.push (PySem.W.kdv_tup [u0])).get? s1.heap.objs.size = some (PySem.W.kdv_tup [u0]) := Heap.get?_push_size s1.heap rfl
  have I2 : Inv X pins σ H { s1 with heap := s1.heap.push (PySem.W.kdv_tup [u0]) } := I1.kept (t' := s1.toks) fun b o e => Heap.get?_push_of_some _ e
  have lt1 : s1.heap.objs.size < (s1.heap.push (PySem.W.kdv_tup [u0])).objs.size := by rw [Heap.size_push]; omega
  have nofr1 : ∀ f, s1.heap.objs.size ≤ f → f ∉ frs X.stack := fun f hf q => by
    rcases List.mem_cons.mp (I1.stkSub _ q) with e | e
    · have h1 := I1.lt
      rw [← e] at h1
      exact Nat.lt_irrefl _ (Nat.lt_of_lt_of_le h1 hf)
    · exact I1.nofs hf e
  have nT : H s1.heap.objs.size = none := I1.hok.fresh (Nat.le_refl _)
  obtain ⟨ps, hP, ht, ha⟩ := hT _ hm
  have bP := TB.bm.keeps I2.bk
  have hP1 : s1.heap.get? P = some { cls := .none, data := .fields ps } := I1.hok P _ hP
  have hP' : (s1.heap.push (PySem.W.kdv_tup [u0])).get? P = some { cls := .none, data := .fields ps } := Heap.get?_push_of_some _ hP1
  have nTP : s1.heap.objs.size ≠ P := Nat.ne_of_gt (Heap.lt_size hP1)
  cases hc : codeAmong pos ps.toList with
  | none =>
    refine PySem.W.kdv_makeTail (mg := X.mg) (c := c) (P := P) (ps := ps) (closure_ok hfree) I.ok.glob (I2.mod.glob.keeps I2.bk) hcode (TB.code.keeps I2.bk) hP' ht hc TB.gP bP fun c' ctv doc h' tk hx hge hlt hrec htb => ?_
    obtain ⟨c2, oc, vs, t, e2, hoc, hd, hv⟩ := hrec
    cases e2
    have hsz : s1.heap.objs.size < h'.objs.size := Nat.lt_of_lt_of_le lt1 (Nat.le_trans hge (Nat.le_of_lt hlt))
    have nC : H c' = none := I2.hok.fresh hge
    have I3 := LamX.inv_table (t' := tk) (more := #[rawInt pos.line, rawInt pos.col, .ref c']) (h' := h'.push (PySem.W.kdv_obj "<lambda>" (X.env.qual ++ "<lambda>") params (.expr body) scope (cloFrom X.env.cells scope.names []) (.ref s1.heap.objs.size) doc ((X.mg "__name__").getD .none) c' ctv)) I2 hP
      (fun b o hb e => Heap.get?_push_of_some _ (hx b o hb e)) (Heap.get?_push_of_some _ htb) hge ⟨oc, vs, t, Heap.get?_push_of_some _ hoc, hd, hv⟩
    have hE : LamX.ExtN H (upd (upd H P (.tbl (ps ++ #[rawInt pos.line, rawInt pos.col, .ref c']))) c' (LamX.CodeO c' (X.env.qual ++ "<lambda>"))) := fun b o e n => by
      rw [upd_ne (ne_of_none e nC), upd_ne (fun z => n ps (Option.some.inj (e.symm.trans (by rw [z]; exact hP))))]
      exact e
    have eL : (ps ++ #[rawInt pos.line, rawInt pos.col, .ref c']).toList = ps.toList ++ [rawInt pos.line, rawInt pos.col, .ref c'] := by simp
    have nTC : s1.heap.objs.size ≠ c' := Nat.ne_of_lt (Nat.lt_of_lt_of_le lt1 hge)
    refine h h'.objs.size c' s1.heap.objs.size u0 doc ((X.mg "__name__").getD .none) ctv _ _ I3 hE (fun p hp => ?_) (Heap.get?_push_size _ rfl) (Heap.get?_push_of_some _ (hx _ _ nTP hsz0)) ?_ (by rw [upd_ne nTC, upd_ne nTP]; exact nT) (nofr1 _ (Nat.le_of_lt hsz)) (nofr1 _ (Nat.le_refl _)) upd_same
    · by_cases hb : p.1 = P
      · rw [hu p hp hb, hb]
        refine ⟨_, by rw [upd_ne (ne_of_none hP nC), upd_same], by rw [eL]; exact PySem.TriplesOk_snoc _ _ _ _ ht, fun p' cv hcv => ?_⟩
        rw [eL] at hcv
        rcases LamX.among_app _ ht hcv with z | z
        · obtain ⟨c0, e1, e2⟩ := ha p' cv z
          exact ⟨c0, e1, hE _ _ e2 LamX.codeO_ne⟩
        · exact ⟨c', z, upd_same⟩
      · obtain ⟨ps', a1, a2, a3⟩ := hT p hp
        refine ⟨ps', by rw [upd_ne (ne_of_none a1 nC), upd_ne hb]; exact a1, a2, fun p' cv hcv => ?_⟩
        obtain ⟨c0, e1, e2⟩ := a3 p' cv hcv
        exact ⟨c0, e1, hE _ _ e2 LamX.codeO_ne⟩
    · have n1 : h'.objs.size ≠ c' := Nat.ne_of_gt hlt
      have n2 : h'.objs.size ≠ P := Nat.ne_of_gt (Nat.lt_trans (Heap.lt_size hP1) hsz)
      rw [upd_ne n1, upd_ne n2]
      exact I1.hok.fresh (Nat.le_of_lt hsz)
  | some cv =>
    obtain ⟨c', e, hco⟩ := ha pos cv hc
    subst e
    refine PySem.W.kdv_makeTailHit (mg := X.mg) (c := c) (P := P) (ps := ps) (closure_ok hfree) I.ok.glob (I2.mod.glob.keeps I2.bk) hcode (TB.code.keeps I2.bk) hP' ht hc bP fun ctv doc h' tk hx hsz => ?_
    have I3 : Inv X pins σ H { s1 with heap := h'.push (PySem.W.kdv_obj "<lambda>" (X.env.qual ++ "<lambda>") params (.expr body) scope (cloFrom X.env.cells scope.names []) (.ref s1.heap.objs.size) doc ((X.mg "__name__").getD .none) c' ctv), toks := tk } := I2.kept fun b o e => Heap.get?_push_of_some _ (hx b o e)
    have hsz1 : s1.heap.objs.size ≤ h'.objs.size := Nat.le_trans (Nat.le_of_lt lt1) hsz
    exact h h'.objs.size c' s1.heap.objs.size u0 doc ((X.mg "__name__").getD .none) ctv H _ I3 (LamX.ExtN.refl H) hT (Heap.get?_push_size _ rfl) (Heap.get?_push_of_some _ (hx _ _ hsz0)) (I1.hok.fresh hsz1) nT (nofr1 _ hsz1) (nofr1 _ (Nat.le_refl _)) hco
end
section
variable {X : Cx} {C : Cn} {pins : List (Addr × Obj)} {τ : L2.St} {H : Hp} {s : Shared}
theorem me_thunkD {CXg : CXT} {Eg : XK} {Ng : List Str} {qg : Str} {sg : Scope} {g f c' : Addr} {cdg pm ctv doc : Value} {z : Str} {T0 : Addr} {u0 : Value} {params : Arguments} {body : Expr} {scope : Scope} {k i : Nat} {a : Str} {pn : List (Addr × Obj)} {m : SS → O D} {caps : List Nat} {lv : List V} {p1 p2 : Pos}
    (I : Inv X pins τ H s) (L : LamD X.env.scope scope X.N z) (hf : s.heap.get? f = some (PySem.W.kdv_obj "<lambda>" (X.env.qual ++ "<lambda>") params (.expr body) scope (cloFrom X.env.cells scope.names []) (.ref T0) doc pm c' ctv)) (hT0 : s.heap.get? T0 = some (PySem.W.kdv_tup [u0])) (hTn : H T0 = none) (hTf : T0 ∉ frs X.stack) (hfn : H f = none) (hfr : f ∉ frs X.stack)
    (hbind : ∀ s1 : Shared, s1.heap.get? T0 = some (PySem.W.kdv_tup [u0]) → BindsTo s1 (PySem.W.kdv_fn "<lambda>" (X.env.qual ++ "<lambda>") params (.expr body) scope (cloFrom X.env.cells scope.names []) (.ref T0) doc pm (.ref c') ctv) ⟨[], []⟩ [(z, u0)]) (hr : TRoom (k + 1) (X.A.deeper (envOfC qg sg s.heap.objs.size g cdg))) (hcap : CapV τ caps lv)
    (hbody : ∀ (A : Around) (outer : List Env) (s : Shared) (H : Hp) (E : XK), TRoom k (A.deeper (LamX.lamEnv X scope s.heap.objs.size f c')) → ME (LamX.lamCx X A outer s H E scope f c') C body m)
    (hN : Ng[i]? = some a) (hv : Vis sg a) (hd : (a == ("__debug__" : Str)) = false := by decide) (hcd : (a == ("__classdict__" : Str)) = false := by decide) :
    ME ((cxOf CXg X.prog X.w X.K X.mg X.base Ng qg sg g cdg X.A X.stack s H Eg).tr pn (cxOf CXg X.prog X.w X.K X.mg X.base Ng qg sg g cdg X.A X.stack s H Eg).xe) (C.lam f c' (X.env.qual ++ "<lambda>") lv) (.Call (.Name a p1) [] [] p2) (sThunk i (lamRes X.N.length caps m)) := by
  refine ⟨fun E W tk => ⟨fun pinsZ sZ τZ HZ Q IZ h => ?_⟩⟩
  obtain ⟨GZ, σZ, srZ, p⟩ := h
  unfold sThunk at p
  split at p
  · rename_i cap eslot
    obtain ⟨v0, F0, ev, rv0, _⟩ := srZ.at eslot
    simp only [Rp] at rv0
    obtain ⟨e0, hc, rcap⟩ := rv0
    subst e0
    have hlenτ : τ.length = X.N.length := I.len
    refine wpAny_Call_Name_kw (thn ((pe_var (pos := p1) (i := i) hN hv hd hcd).run pinsZ sZ τZ HZ (fun v H1 => v = .ref f ∧ H1 = HZ) IZ ⟨.ref f, ev, rfl, rfl⟩) fun u s1 ⟨v, H1, I1, r1, q1⟩ => ?_)
    obtain ⟨ev1, eH⟩ := q1
    subst ev1
    rw [eH] at I1
    obtain rfl : u = Value.ref f := r1
    have at1 := I1.base.keep f _ hf hfn hfr (fun z => nomatch (show f ∈ ([] : List Addr) from z))
    have atT := I1.base.keep T0 _ hT0 hTn hTf (fun z => nomatch (show T0 ∈ ([] : List Addr) from z))
    refine PySem.W.callWith_F0 ⟨_, _, _, _, at1⟩ ?_
    have un : Un (frs X.stack) [] H HZ s.heap s1.heap := I1.base
    obtain ⟨⟨oc, vs, t, hoc, hdc, hvc⟩, _, _⟩ := I1.hok c' _ hc
    -- what the lambda's body meets
    have tabs : LamX.Tabs C.T HZ := srZ.tabs
    have back : ∀ {σ' : SS} {H' : Hp}, SR C ⟨fun a => (HZ a).filter notTbl, fun _ => 0⟩ H' σ' τ → Fx C.T HZ H' → SR (C.lam f c' (X.env.qual ++ "<lambda>") lv) GZ H' σZ τZ := fun {σ' H'} sr fx => srZ.keepN fx fun a o e nt => sr.gr a o (Option.filter_eq_some_iff.mpr ⟨e, nt⟩)
    have pre : tE C (fun cls d _ H' => W cls d τZ H') m τ HZ Q := by
      cases hnl : noLamL cap with
      | false =>
        have e : lamRes X.N.length caps m cap = .bad := by unfold lamRes; rw [hnl]; rfl
        rw [e] at p; exact p.elim
      | true =>
        have start := sr_put (sr_none (τ := τ) tabs) hcap ((rpL_lam hnl).mp rcap)
        rw [hlenτ] at start
        refine ⟨_, _, start, ?_⟩
        cases em : m (putC (List.replicate X.N.length none) caps cap) with
        | bad =>
          have e : lamRes X.N.length caps m cap = .bad := by unfold lamRes; rw [hnl, em]; rfl
          rw [e] at p; exact p.elim
        | ok d σ' =>
          cases hn : noLam d with
          | false =>
            have e : lamRes X.N.length caps m cap = .bad := by unfold lamRes; rw [hnl, em]; simp [hn]
            rw [e] at p; exact p.elim
          | true =>
            have e : lamRes X.N.length caps m cap = .ok d := by unfold lamRes; rw [hnl, em]; simp [hn]
            rw [e] at p
            exact fun v H' rv sr fx => p v H' ((rp_lam hn).mpr rv) (back sr fx) fx
        | ex x σ' =>
          cases hn : noLam x.d with
          | false =>
            have e : lamRes X.N.length caps m cap = .bad := by unfold lamRes; rw [hnl, em]; simp [hn]
            rw [e] at p; exact p.elim
          | true =>
            have e : lamRes X.N.length caps m cap = .ex x := by unfold lamRes; rw [hnl, em]; simp [hn]
            rw [e] at p
            refine fun cls d H' rx sr fx => p cls d H' ?_ (back sr fx) fx
            obtain ⟨e1, dd, fs, v, e2, e3, e4, e5⟩ := rx
            exact ⟨e1, dd, fs, v, e2, e3, e4, (rp_lam hn).mpr e5⟩
    have dep : (X.A.deeper (envOfC qg sg s.heap.objs.size g cdg)).depth < recursionLimit := by have := hr.dp; omega
    have rc : codeAny (model X.prog X.w) (X.A.deeper (envOfC qg sg s.heap.objs.size g cdg)) (.call (.ref f) ⟨[], []⟩) (CR (L2.CX X.prog X.w) (envOfC qg sg s.heap.objs.size g cdg :: X.stack) X.prog X.w HZ s1 Q fun cls d H' => W cls d τZ H') s1 := by
      refine PySem.W.kla_callFunE dep at1 rfl L.co L.gen rfl ⟨c', oc, vs, t, rfl, hoc, hdc, hvc⟩ ?_
      refine hbind s1 atT _ _ _ _ ?_
      refine wpAny_newFunctionEnv (fun y hy => (L.own y hy).2) (fun y hy => by rw [List.mem_singleton.mp hy]; exact L.hz) (fun h₁ hns hsb => ⟨I1.nolimit.fresh _ hsb, ?_⟩) L.kind
      show codeAny _ _ (.expr body (LamX.lamEnv X scope s1.heap.objs.size f c')) _ _
      have kp : ∀ b o, s1.heap.get? b = some o → h₁.get? b = some o := fun b o e => hsb.extBut b o (Nat.ne_of_lt (Heap.lt_size e)) (Heap.get?_push_of_some _ e)
      have J := lam_startD (bs := [(z, u0)]) (E := fun cls d H' => W cls d τZ H') (f := f) (c' := c') (tk := s1.toks + ([(z, u0)] : List (Str × Value)).length) I L I1.env0 hr.hd un hns kp
      have tk2 : Takes (LamX.lamCx X (X.A.deeper (envOfC qg sg s.heap.objs.size g cdg)) (envOfC qg sg s.heap.objs.size g cdg :: X.stack) s1 HZ (fun cls d H' => W cls d τZ H') scope f c') (fun cls d _ H' => W cls d τZ H') := takes_of rfl rfl rfl rfl
      refine PySem.W.kla_codeExpr (wpAny_mono (((hbody _ _ s1 HZ (fun cls d H' => W cls d τZ H') (hr.deeper _)).pe _ _ tk2).run [] _ _ HZ Q J pre) (fun v s' hq => ?_) fun e s' hq => hq)
      obtain ⟨w', H', J', rv, q⟩ := hq
      exact ⟨w', H', J'.os, J'.bare, J'.base, J'.hok, rv, q⟩
    refine wpAny_call (codeAny_mono rc fun r s' hq => ?_)
    cases r with
    | error e => exact tk e s' (XE.of_call (X := ((cxOf CXg X.prog X.w X.K X.mg X.base Ng qg sg g cdg X.A X.stack s H Eg).tr pn (cxOf CXg X.prog X.w X.K X.mg X.base Ng qg sg g cdg X.A X.stack s H Eg).xe).wish E) I1 (fun cls d H' h => h) hq)
    | ok fl =>
      cases fl with
      | ret u => exact I1.after hq
      | next => exact False.elim hq
      | brk => exact False.elim hq
      | cont => exact False.elim hq
  · exact p.elim
end
section
variable {X : Cx} {C : Cn}
theorem me_lamD {x a : Str} {g c P : Addr} {k : Nat} {pg : Arguments} {bg : List Stmt} {sg : Scope} {dV kV doc pm cdv ct oc : Value} {an od : Option Addr} {osl : Array (Option Value)} {Ng : List Str} {params : Arguments} {body : Expr} {scope : Scope} {m : SS → O D} {caps : List Nat} {z : Str} {dj : Nat} {dn : Int} {dp : Pos} {G : (List D → TR) → SS → OS} {p lpos pos : Pos}
    (hK : X.K = C.K) (hg : Gl X x) (hm : X.mg x = some (.ref g)) (hk : PySem.W.keepIn X.K (.ref g) = true) (lk : X.K.lookup g = some ⟨oc, od, .func (PySem.W.fnOf x x pg bg sg dV kV doc pm an cdv ct), osl⟩) (hcg : PySem.W.codeIn X.K cdv x = true) (hb : L2.Binds X.K (PySem.W.fnOf x x pg bg sg dV kV doc pm an cdv ct) [a] []) (Sg : FnScope Ng [a] sg) (hNg : Ng[0]? = some a) (hva : Vis sg a)
    (TB : LamX.TabB X.base X.mg c P) (hcode : X.env.code = .ref c) (hmT : (P, X.env.qual ++ "<lambda>") ∈ C.T) (hu : ∀ p ∈ C.T, p.1 = P → p.2 = X.env.qual ++ "<lambda>") (hr : TRoom (k + 2) X.A) (L : LamD X.env.scope scope X.N z) (hdef : params.defaults = [.Constant (.int dn) dj dp]) (hkd : params.kw_defaults = [])
    (hbind : ∀ (q : Str) (cl : List (Str × Addr)) (T0 : Addr) (u0 doc pm cv ctv : Value) (s1 : Shared), s1.heap.get? T0 = some (PySem.W.kdv_tup [u0]) → BindsTo s1 (PySem.W.kdv_fn "<lambda>" q params (.expr body) scope cl (.ref T0) doc pm cv ctv) ⟨[], []⟩ [(z, u0)])
    (hbody : ∀ (A : Around) (outer : List Env) (s : Shared) (H : Hp) (E : XK) (f c' : Addr), TRoom k (A.deeper (LamX.lamEnv X scope s.heap.objs.size f c')) → ME (LamX.lamCx X A outer s H E scope f c') C body m)
    (hG : ∀ (f c' : Addr) (lv : List V) (s : Shared) (H : Hp) (E : XK), TRoom (k + 1) (X.A.deeper (envOfC x sg s.heap.objs.size g cdv)) →
      (∀ (pn : List (Addr × Obj)) (p1 p2 : Pos), ME ((cxOf (CX X.prog X.w) X.prog X.w X.K X.mg X.base Ng x sg g cdv X.A X.stack s H E).tr pn (cxOf (CX X.prog X.w) X.prog X.w X.K X.mg X.base Ng x sg g cdv X.A X.stack s H E).xe) (C.lam f c' (X.env.qual ++ "<lambda>") lv) (.Call (.Name a p1) [] [] p2) (sThunk 0 (lamRes X.N.length caps m))) →
      MSs (cxOf (CX X.prog X.w) X.prog X.w X.K X.mg X.base Ng x sg g cdv X.A X.stack s H E) (C.lam f c' (X.env.qual ++ "<lambda>") lv) bg (G (lamRes X.N.length caps m)))
    (hdb : (x == ("__debug__" : Str)) = false := by decide) (hd : (a == ("__debug__" : Str)) = false := by decide) (hcd : (a == ("__classdict__" : Str)) = false := by decide) :
    ME X C (.Call (.Name x p) [.Lambda params body scope lpos] [] pos) (sLam Ng.length G (lamRes X.N.length caps m) caps) := by
  refine ⟨fun E W tk => ⟨fun pins s τ H Q I h => ?_⟩⟩
  obtain ⟨G0, σ, sr, pq⟩ := h
  unfold sLam at pq
  split at pq
  · rename_i cap ecap
    split at pq
    · rename_i hnl
      obtain ⟨lv, hcv, rcap⟩ := caps_ok sr ecap
      refine wpAny_Call_Name_kw (ld_glob I hg hm ?_ hdb)
      refine PySem.W.callWith_K (h₀ := X.base) I.ok.mod.kin hk ?_ (by rfl) (by rfl)
      show wpAny _ _ (spliced ((false, eval (.Lambda params body scope lpos) X.env) :: backTo pos (starEach [] X.env))) _ _ s
      refine Calls.spliced_cons (lam_makeD (X := X.wish E) I TB hcode hmT hu sr.tabs hdef hkd (L.has (X := X.wish E) I.ok) fun f c' T0 u0 doc pm' ctv H1 s' I1 eN T1 hf hT0 hfn hTn hfr hTf hco => ?_)
      refine Calls.spliced_nil ⟨I1.kIn, ?_⟩
      have fx : Fx C.T H H1 := ⟨fun b o e d => eN b o e fun ps z => (by rw [z] at d; cases d), fun _ => T1⟩
      · have sr1 : SR C G0 H1 σ τ := sr.keepN fx fun b o e nt => eN b o e fun ps z => (by rw [z] at nt; cases nt)
        have ra : RArgs (C.lam f c' (X.env.qual ++ "<lambda>") lv) H1 [.val (.lam cap)] [.ref f] (fun _ => 0) := by
          refine ⟨T1, rfl, fun j d e => ?_, fun j m e => ?_, fun j i m e => ?_, fun i j ⟨m, e⟩ _ _ => ?_⟩
          · cases j with
            | zero =>
              cases e
              refine ⟨_, rfl, ?_⟩
              simp only [Rp]
              exact ⟨rfl, hco, (rpL_lam hnl).mpr (rcap.fx fx)⟩
            | succ j => cases e
          · cases j with
            | zero => cases e
            | succ j => cases e
          · cases j with
            | zero => cases e
            | succ j => cases e
          · cases i with
            | zero => cases e
            | succ i => cases e
        have keep : ∀ {outs : List SD} {H' : Hp}, RKeep (C.lam f c' (X.env.qual ++ "<lambda>") lv) H1 H' [.val (.lam cap)] outs (fun _ => 0) → SR C G0 H' σ τ ∧ Fx C.T H H' := fun {outs H'} rk => by
          refine ⟨sr1.keepN rk.fx fun b o e nt => rk.old b o e nt fun j ⟨m, z⟩ => ?_, fx.trans rk.fx⟩
          cases j with
          | zero => cases z
          | succ j => cases z
        have rc : codeAny (model X.prog X.w) X.A (.call (.ref g) ⟨[.ref f], []⟩) (CR (CX X.prog X.w) X.stack X.prog X.w H1 s' Q fun cls d H' => W cls d τ H') s' := by
          refine run_at (us := [.ref f]) (vs := [.ref f]) (ps := [a]) (N := Ng) lk hcg Sg hr I1.env0 (hb s' [.ref f] I1.kIn rfl) (.cons rfl .nil) (fun E' hr' => hG f c' lv s' H1 E' hr' fun pn p1 p2 => me_thunkD (X := X.wish E) I1 L hf hT0 hTn hTf hfn hfr (fun s1 h1 => hbind _ _ _ _ _ _ _ _ s1 h1) hr' hcv (fun A outer s2 H2 E2 hr2 => hbody A outer s2 H2 E2 f c' hr2) hNg hva hd hcd) ra rfl ?_
          show match runB Ng.length 1 (G (lamRes X.N.length caps m)) [.val (.lam cap)] with
            | .bad => False
            | .ok d outs => ∀ v H', Rp (C.lam f c' (X.env.qual ++ "<lambda>") lv) H' d v → RKeep (C.lam f c' (X.env.qual ++ "<lambda>") lv) H1 H' [.val (.lam cap)] outs (fun _ => 0) → Q v H'
            | .okm m outs => _
            | .ex x outs => ∀ cls dd H', RX (C.lam f c' (X.env.qual ++ "<lambda>") lv) H' x cls dd → RKeep (C.lam f c' (X.env.qual ++ "<lambda>") lv) H1 H' [.val (.lam cap)] outs (fun _ => 0) → W cls dd τ H'
          cases er : runB Ng.length 1 (G (lamRes X.N.length caps m)) [.val (.lam cap)] with
          | bad => rw [er] at pq; exact pq
          | okm m2 outs => rw [er] at pq; exact pq.elim
          | ok d outs =>
            rw [er] at pq
            dsimp only at pq
            cases hn : noLam d with
            | false => rw [hn] at pq; exact pq.elim
            | true =>
              rw [hn] at pq
              exact fun v H' rv rk => pq v H' ((rp_lam hn).mp rv) (keep rk).1 (keep rk).2
          | ex y outs =>
            rw [er] at pq
            dsimp only at pq
            cases hn : noLam y.d with
            | false => rw [hn] at pq; exact pq.elim
            | true =>
              rw [hn] at pq
              refine fun cls dd H' rx rk => pq cls dd H' ?_ (keep rk).1 (keep rk).2
              obtain ⟨e1, d2, fs, v, e2, e3, e4, e5⟩ := rx
              exact ⟨e1, d2, fs, v, e2, e3, e4, (rp_lam hn).mp e5⟩
        refine wpAny_call (codeAny_mono rc fun r s2 hq => ?_)
        cases r with
        | error e => exact tk e s2 (XE.of_call (X := X.wish E) I1 (fun cls d H' h => h) hq)
        | ok fl =>
          cases fl with
          | ret u => exact I1.after hq
          | next => exact False.elim hq
          | brk => exact False.elim hq
          | cont => exact False.elim hq
    · exact pq.elim
  · exact pq.elim
end
end TL

set_option Elab.async false
set_option linter.all false
set_option maxRecDepth 100000
set_option maxHeartbeats 4000000
/-! TL35: exceptions raised: what an __init__ of the text promises; which classes a clause takes. -/
namespace TL
open PySem PySem.Spec PyProof.Rows L2
theorem init_fnI {P : Program} {w : World} {K : PySem.W.Frag} {mg : Str → Option Value} {base : Heap} {fI c : Addr} {qual pn f m bn : Str} {params : Arguments} {scope : Scope} {dvs : List V} {fd : FuncData} {B newId initId : String} {tl : List Value} {p1 p2 p3 p4 p5 p6 p7 p8 p9 p10 : Pos} {j : Nat}
    (F : FunD K "__init__" qual params (iniBody bn m f pn p1 p2 p3 p4 p5 p6 p7 p8 p9 p10 j) scope dvs [] fI fd)
    (S : FnScope ["self", pn] ["self", pn] scope) (hpd : (pn == ("__debug__" : Str)) = false) (hpc : (pn == ("__classdict__" : Str)) = false) (T : ClsE K c B newId initId tl) (hno : PySem.W.findIn K (.ref c) f = some none)
    (hB : ∀ (cdv : Value) (A : Around) (outer : List Env) (s : Shared) (H : Hp) (E : XK), BaseAt (cxOf CX0 P w K mg base ["self", pn] qual scope fI cdv A outer s H E) bn p1 initId)
    (hc : ∀ (cdv : Value) (n : Nat), ∃ pl : Sem Bool, eval (.Call (.Attribute (.Name bn p1) "__init__" p2) [.Name "self" p3, .Constant (.str m) j p4] [] p5) (envOfC qual scope n fI cdv) = (do
      let ov ← eval (.Name bn p1) (envOfC qual scope n fI cdv)
      standAt p2.atName
      let (f, first) ← holding [ov] (getMethod ov "__init__" pl)
      callWith p5 f first (backTo p5 (starEach [.Name "self" p3, .Constant (.str m) j p4] (envOfC qual scope n fI cdv))) (backToKw p5 (keywordEach [] (envOfC qual scope n fI cdv)))))
    (hs1 : ∀ (cdv : Value) (n : Nat), swapsWith (.Call (.Attribute (.Name bn p1) "__init__" p2) [.Name "self" p3, .Constant (.str m) j p4] [] p5) none p6.line (envOfC qual scope n fI cdv) = pure false)
    (hs2 : ∀ (cdv : Value) (n : Nat), swapsWith (.Name pn p9) (some (.Attribute (.Name "self" p7) f p8)) p10.line (envOfC qual scope n fI cdv) = pure false) : FnOk P w K mg base CX0 1 fI fd ["self", pn] (spI K c f) := by
  have vis : ∀ x : Str, x ∈ (["self", pn] : List Str) → Vis scope x := fun x hx => (S.par x hx).elim .inl fun z => .inr (.inl z)
  refine F.ok S (fun vs H Q E ⟨a, y, e, _⟩ => by rw [e]; rfl) fun cdv A outer s H vs Q E hr ⟨a, y, e, ha, q⟩ => ?_
  subst e
  obtain ⟨pl, ec⟩ := hc cdv s.heap.objs.size
  refine ⟨_, pss_cons (ps_expr (pe_binit (B := B) (newId := newId) (initId := initId) (tl := tl) (hB cdv A outer s H E) (pa_cons (pv 0 rfl (vis _ (by simp)) (by decide) (by decide)) (pa_cons pe_str pa_nil)) ec) (hs1 cdv _))
    (pss_one (ps_fst (B := B) (newId := newId) (initId := initId) (tl := tl) (pv 0 rfl (vis _ (by simp)) (by decide) (by decide)) (pv 1 rfl (vis _ (by simp)) hpd hpc) (hs2 cdv _))), ?_⟩
  refine ⟨.ref a, rfl, a, c, _, rfl, by simp, T, ha, ?_⟩
  exact ⟨y, rfl, .ref a, rfl, a, c, rfl, T, hno, ha, fun dx nd ned => q dx nd ned⟩
structure CRs (P : Program) (w : World) (K : PySem.W.Frag) (mg : Str → Option Value) (base : Heap) (c f1 : Addr) (f pn : Str) (fd : FuncData) : Prop where
  fi : FnOk P w K mg base CX0 1 f1 fd ["self", pn] (spI K c f)
  nf : PySem.W.findIn K (.ref c) f = some none
theorem clsB_of {P : Program} {w : World} {K : PySem.W.Frag} {mg : Str → Option Value} {base : Heap} {S c f1 : Addr} {kd : Nat} {nm f qual pn bn m : Str} {st : Stmt} {o o1 : Obj} {dV cd : Value} {b : Bool} (z : KCls K S kd nm f c o) (hk : kd < 4) (zi : KIni K qual st c f1 o1 dV cd) (hd : dfOf K b dV)
    (sc : FnScope ["self", pn] ["self", pn] (defScope st)) (hpd : (pn == ("__debug__" : Str)) = false) (hpc : (pn == ("__classdict__" : Str)) = false) (tx : IniText st qual bn m f pn f1)
    (hB : ∀ (X : Cx) (p1 : Pos), X.K = K → X.mg = mg → Gl X bn → BaseAt X bn p1 (iniOf kd)) :
    ∃ fd, ClsO P w K mg base c f1 f m (bOf kd) (newOf kd) (iniOf kd) (tlOf kd) fd ["self", pn] ∧ FunD K "__init__" qual (defArgs st) (defBody st) (defScope st) (dvOf b) [] f1 fd ∧ CRs P w K mg base c f1 f pn fd := by
  obtain ⟨fd, F, _⟩ := zi.fund hd
  obtain ⟨p1, p2, p3, p4, p5, p6, p7, p8, p9, p10, j, eb, e1, e2, e3, e4⟩ := tx
  have F' : FunD K "__init__" qual (defArgs st) (iniBody bn m f pn p1 p2 p3 p4 p5 p6 p7 p8 p9 p10 j) (defScope st) (dvOf b) [] f1 fd := eb ▸ F
  have hB' : ∀ (cdv : Value) (A : Around) (outer : List Env) (s : Shared) (H : Hp) (E : XK), BaseAt (cxOf CX0 P w K mg base ["self", pn] qual (defScope st) f1 cdv A outer s H E) bn p1 (iniOf kd) := fun cdv A outer s H E => hB _ p1 rfl rfl (e1 cdv _)
  refine ⟨fd, ⟨z.clsE hk, zi.a1, zi.t1, ?_⟩, F, ?_, z.nf⟩
  · exact init_fn F' sc hpd hpc (z.clsE hk) z.nf hB' (fun cdv n => e2 cdv n) (fun cdv n => e3 cdv n) (fun cdv n => e4 cdv n)
  · exact init_fnI F' sc hpd hpc (z.clsE hk) z.nf hB' (fun cdv n => e2 cdv n) (fun cdv n => e3 cdv n) (fun cdv n => e4 cdv n)
/-! ### which clause takes it -/
section
variable {K : PySem.W.Frag} {S c d : Addr} {kd kd' : Nat} {nm nm' f : Str} {o o' : Obj}
theorem exm_of (z : KObj K S kd nm c o) (z' : KObj K S kd' nm' d o') (tD : PySem.W.typeIn K (.ref d) = some (.type "type")) (eD : PySem.W.subIn K (.ref d) (.type "BaseException") = some true) {b : Bool} (h : (Value.ref c :: bmOf S kd).contains (.ref d) = b) : PySem.W.exmOne K (.ref c) (.ref d) = some b := by
  unfold PySem.W.exmOne
  rw [if_pos (by rw [eD]; rfl)]
  obtain ⟨cd, e, _, _⟩ := z'.mro
  show (if ((PySem.W.clsIn K d).isSome && PySem.W.typeIn K (.ref d) == some (.type "type")) = true then PySem.W.subIn K (.ref c) (.ref d) else none) = some b
  rw [e, tD, if_pos (by simp), z.sub, h]
theorem exm_own (z : KCls K S kd nm f c o) : PySem.W.exmOne K (.ref c) (.ref c) = some true := exm_of z.toKObj z.toKObj z.tC z.exC (by simp)
theorem exm_oth {oS : Obj} {f' : Str} (z : KCls K S kd nm f c o) (z' : KCls K S kd' nm' f' d o') (zS : KObj K S 3 "SameError" S oS) (h : nm ≠ nm') (h' : "SameError" ≠ nm') : PySem.W.exmOne K (.ref c) (.ref d) = some false := by
  refine exm_of z.toKObj z'.toKObj z'.tC z'.exC ?_
  have h1 := z.toKObj.ne z'.toKObj h
  have h2 := zS.ne z'.toKObj h'
  match kd with
  | 0 =>
    have := tl_noref d 0
    simp only [bmOf, List.contains_cons, this, Bool.or_false, Bool.or_eq_false_iff]
    exact ⟨by simpa using h1.symm, by simpa using h2.symm⟩
  | k + 1 =>
    have := tl_noref d (k + 1)
    simp only [bmOf, List.contains_cons, this, Bool.or_false]
    simpa using h1.symm
theorem exm_base {oS : Obj} (z : KCls K S kd nm f c o) (zS : KObj K S 3 "SameError" S oS) (tS : PySem.W.typeIn K (.ref S) = some (.type "type")) (h : nm ≠ "SameError") : PySem.W.exmOne K (.ref c) (.ref S) = some (kd == 0) := by
  refine exm_of z.toKObj zS tS ?_ ?_
  · rw [zS.sub]; simp [bmOf, tlOf]
  have h1 := z.toKObj.ne zS h
  match kd with
  | 0 => simp [bmOf]
  | k + 1 =>
    have := tl_noref S (k + 1)
    simp only [bmOf, List.contains_cons, this, Bool.or_false]
    have h2 : (Value.ref S == Value.ref c) = false := by simpa using h1.symm
    rw [h2]; rfl
theorem exm_any3 {cls c1 c2 c3 : Value} {b1 b2 b3 : Bool} (h1 : PySem.W.exmOne K cls c1 = some b1) (h2 : PySem.W.exmOne K cls c2 = some b2) (h3 : PySem.W.exmOne K cls c3 = some b3) {b : Bool} (h : (b1 || (b2 || (b3 || false))) = b) : PySem.W.exmAny K cls [c1, c2, c3] = some b := by
  simp only [PySem.W.exmAny, h1, h2, h3]
  rw [h]
theorem exm_any2 {cls c1 c2 : Value} {b1 b2 : Bool} (h1 : PySem.W.exmOne K cls c1 = some b1) (h2 : PySem.W.exmOne K cls c2 = some b2) {b : Bool} (h : (b1 || (b2 || false)) = b) : PySem.W.exmAny K cls [c1, c2] = some b := by
  simp only [PySem.W.exmAny, h1, h2]
  rw [h]
end
end TL

set_option Elab.async false
set_option linter.all false
set_option maxRecDepth 100000
set_option maxHeartbeats 4000000
/-! TL36: tuples of texts of the module; the law's def, whose code object is known. -/
namespace TL
open PySem PySem.Spec PyProof.Rows L2
def StrIts : List Value → List Str → Prop
  | [], [] => True
  | u :: r, z :: s => (∃ t, u = .str z t) ∧ StrIts r s
  | _, _ => False
def TupObj (o : Obj) (zs : List Str) : Prop := ∃ dd its n sl, o = ⟨.type "tuple", dd, .seq its n, sl⟩ ∧ its.size ≤ sizeLine ∧ StrIts its.toList zs
theorem StrIts.vals : ∀ {us : List Value} {zs : List Str}, StrIts us zs → Vals (zs.map V.str) us
  | [], [], _ => .nil
  | u :: r, z :: s, ⟨h, t⟩ => .cons h (StrIts.vals t)
  | [], _ :: _, h => h.elim
  | _ :: _, [], h => h.elim
theorem strs_rp {C : Cn} {H : Hp} : ∀ zs : List Str, RpL C H (zs.map D.str) (zs.map V.str)
  | [] => .nil
  | z :: zs => .cons .s (strs_rp zs)
theorem tup_rp {C : Cn} {H : Hp} {a : Addr} {o : Obj} {zs : List Str} (l : C.K.lookup a = some o) (h : TupObj o zs) : Rp C H (.tup (zs.map D.str)) (.ref a) := by
  obtain ⟨dd, its, n, sl, rfl, hz, hs⟩ := h
  exact rp_tup (.inr ⟨_, its, n, l, rfl, rfl, hz, hs.vals⟩) (strs_rp zs)
theorem KDef.law {K : PySem.W.Frag} {nm : Str} {st : Stmt} {f : Addr} {o : Obj} {cd : Value} (z : KDef K nm st f o cd) :
    ∃ oc od kV doc pm an ct osl, K.lookup f = some ⟨oc, od, .func (PySem.W.fnOf nm nm (defArgs st) (defBody st) (defScope st) .none kV doc pm an cd ct), osl⟩ := by
  obtain ⟨oc, od, kV, doc, pm, an, ct, osl, e⟩ := z.ex
  exact ⟨oc, od, kV, doc, pm, an, ct, osl, by rw [z.lo, e]⟩
/-- what is known of a def that gets a lambda -/
def HoK (K : PySem.W.Frag) (nm p : Str) (st : Stmt) (f : Addr) : Prop := ∃ oc od kV doc pm an cdv ct osl, K.lookup f = some ⟨oc, od, .func (PySem.W.fnOf nm nm (defArgs st) (defBody st) (defScope st) .none kV doc pm an cdv ct), osl⟩ ∧ PySem.W.codeIn K cdv nm = true ∧ Binds K (PySem.W.fnOf nm nm (defArgs st) (defBody st) (defScope st) .none kV doc pm an cdv ct) [p] []
theorem KDef.ho {K : PySem.W.Frag} {nm p : Str} {st : Stmt} {f : Addr} {o : Obj} {cd : Value} (z : KDef K nm st f o cd)
    (h : ∀ (kV doc pm : Value) (an : Option Addr) (cdv ct u : Value), bindArgs (PySem.W.fnOf nm nm (defArgs st) (defBody st) (defScope st) .none kV doc pm an cdv ct) ⟨[u], []⟩ = pure [(p, u)]) : HoK K nm p st f := by
  obtain ⟨oc, od, kV, doc, pm, an, ct, osl, e⟩ := z.law
  refine ⟨oc, od, kV, doc, pm, an, cd, ct, osl, e, z.co, fun s us KI hl => ?_⟩
  match us, hl with
  | [u], _ => exact .of_eq (h kV doc pm an cd ct u)
end TL
namespace TL
open PySem PySem.Spec PyProof.Rows L2
/-- raise C(e) -/
theorem ms_raise1 {X : Cx} {C : Cn} {e : Expr} {x : Str} {p pos pos' : Pos} {k n kd : Nat} {fI : Addr} {f mm pn : Str} {b : Bool} {fd : FuncData} {m : SS → O (List D)} (hc : X.calm = true) (z : CAll X.prog X.w X.K X.mg X.base (C.ca k) fI f mm pn kd b fd) (r : CRs X.prog X.w X.K X.mg X.base (C.ca k) fI f pn fd) (hr : TRoom n X.A) (hcf : C.cf k = f)
    (hg : Gl X x) (hm : X.mg x = some (.ref (C.ca k))) (ha : MA X C [e] m) (hdb : (x == ("__debug__" : Str)) = false := by decide)
    (he : starEach [e] X.env = (false, eval e X.env) :: starEach [] X.env := by rfl) (hpl : (backTo pos (starEach [] X.env)).any (·.1) = false := by rfl) : MS X C (.Raise (some (.Call (.Name x p) [e] [] pos)) none pos') (sRaise k [] m) :=
  ms_raise hc ⟨z.z.T, z.z.iC, z.z.tI, r.nf, r.fi, z.pos, .nil⟩ hr hcf (fun _ => .nil) hg hm ha hdb he hpl
end TL

set_option Elab.async false
set_option linter.all false
set_option maxRecDepth 100000
set_option maxHeartbeats 4000000
/-! TL37: two texts compared; reprs of small things. -/
namespace TL
open PySem PySem.Spec PyProof.Rows L2
def cNeS : D → D → Option D
  | .str x, .str y => some (.bl (!decide (x = y)))
  | _, _ => none
theorem op_neS {X : Cx} {C : Cn} : OpR X (compareOp .NotEq) (rD C cNeS) := by
  intro p s τ H x y v u Q I rx ry ⟨a, b, d, ra, rb, e, k⟩
  unfold cNeS at e
  split at e
  · rename_i x0 y0
    cases e
    have := ra.str; subst this
    have := rb.str; subst this
    refine op_ne p s τ H _ _ v u Q I rx ry ⟨rfl, ?_⟩
    have e : decide (V.str x0 = V.str y0) = decide (x0 = y0) := by simp
    rw [e]
    exact k _ H (.refl H) .b
  · cases e
/-! ### what is small enough to be shown -/
mutual
def small : D → Bool
  | .non | .bl _ => true
  | .int i => decide (i.natAbs < 100)
  | .str x => x.cps.toList.all (fun c => decide (c < 16 ^ 8)) && PyData.strOk x
  | .tup ds => smallL ds
  | .lst ds => smallL ds
  | _ => false
def smallL : List D → Bool
  | [] => true
  | d :: ds => small d && smallL ds
end
mutual
def bulkD : D → Nat
  | .str x => x.cps.size
  | .tup ds => bulkL ds
  | .lst ds => bulkL ds
  | _ => 0
def bulkL : List D → Nat
  | [] => 0
  | d :: ds => bulkD d + 1 + bulkL ds
end
theorem int_short {i : Int} (h : i.natAbs < 100) : (PyData.shown (.int i)).length ≤ 13 ∧ i.natAbs.log2 < 1920 := by
  have h1 : ∀ n : Nat, n < 100 → (PyData.shown (.int (n : Int))).length ≤ 13 ∧ (PyData.shown (.int (-(n : Int)))).length ≤ 13 := by decide +kernel
  have h2 : i.natAbs.log2 < 1920 := by
    by_cases h0 : i.natAbs = 0
    · rw [h0]; decide
    · have := (Nat.log2_lt h0 (k := 1920)).mpr (Nat.lt_of_lt_of_le h (by decide +kernel : 100 ≤ 2 ^ 1920))
      exact this
  refine ⟨?_, h2⟩
  rcases (by omega : i = ((i.natAbs : Nat) : Int) ∨ i = -((i.natAbs : Nat) : Int)) with e | e
  · rw [e]; exact (h1 _ h).1
  · rw [e]; exact (h1 _ h).2
mutual
theorem small_toP : ∀ {d : D}, small d = true → ∃ p, toP d = some p ∧ p.showable = true ∧ p.leavesShort 13 = true ∧ p.bulk = bulkD d
  | .non, _ => ⟨_, by simp only [toP]; rfl, by simp only [PyData.showable], by simp only [PyData.leavesShort], by simp only [PyData.bulk, bulkD]⟩
  | .bl b, _ => ⟨_, by simp only [toP]; rfl, by simp only [PyData.showable], by simp only [PyData.leavesShort], by simp only [PyData.bulk, bulkD]⟩
  | .int i, h => by
    simp only [small, decide_eq_true_eq] at h
    obtain ⟨h1, h2⟩ := int_short h
    exact ⟨_, by simp only [toP]; rfl, by simp only [PyData.showable]; exact decide_eq_true h2, by simp only [PyData.leavesShort]; exact decide_eq_true h1, by simp only [PyData.bulk, bulkD]⟩
  | .str x, h => by
    simp only [small, Bool.and_eq_true] at h
    exact ⟨_, by simp only [toP]; rfl, by simp only [PyData.showable], by simp only [PyData.leavesShort]; exact h.1, by simp only [PyData.bulk, bulkD]⟩
  | .tup ds, h => by
    simp only [small] at h
    obtain ⟨ps, e, s, l, b⟩ := smallL_toP h
    exact ⟨_, by simp only [toP, e]; rfl, by simp only [PyData.showable]; exact s, by simp only [PyData.leavesShort]; exact l, by simp only [PyData.bulk, bulkD]; exact b⟩
  | .lst ds, h => by
    simp only [small] at h
    obtain ⟨ps, e, s, l, b⟩ := smallL_toP h
    exact ⟨_, by simp only [toP, e]; rfl, by simp only [PyData.showable]; exact s, by simp only [PyData.leavesShort]; exact l, by simp only [PyData.bulk, bulkD]; exact b⟩
  | .cls _, h | .fn _ _, h | .exc _ _, h | .err _ _, h | .lam _, h => by simp [small] at h
theorem smallL_toP : ∀ {ds : List D}, smallL ds = true → ∃ ps, toPL ds = some ps ∧ PyData.showableAll ps = true ∧ PyData.leavesShortAll 13 ps = true ∧ PyData.bulkAll ps = bulkL ds
  | [], _ => ⟨[], by simp only [toPL], by simp only [PyData.showableAll], by simp only [PyData.leavesShortAll], by simp only [PyData.bulkAll, bulkL]⟩
  | d :: ds, h => by
    simp only [smallL, Bool.and_eq_true] at h
    obtain ⟨p, e1, s1, l1, b1⟩ := small_toP h.1
    obtain ⟨ps, e2, s2, l2, b2⟩ := smallL_toP h.2
    exact ⟨p :: ps, by simp only [toPL, e1, e2], by simp only [PyData.showableAll, s1, s2, Bool.and_self], by simp only [PyData.leavesShortAll, l1, l2, Bool.and_self], by simp only [PyData.bulkAll, bulkL, b1, b2]⟩
end
/-- a small thing is shown -/
theorem fRepr_some {d : D} (h1 : ok 200 d = true) (h2 : isSeqD d = true) (h3 : small d = true) (h4 : bulkD d ≤ 2 ^ 20) : ∃ x, fRepr d = some (.str x) := by
  obtain ⟨p, e, s, l, b⟩ := small_toP h3
  unfold fRepr
  rw [if_pos ⟨h1, h2⟩, e]
  dsimp only
  rw [if_pos ⟨s, by rw [← LIM_eq]; exact PyData.shown_fits_bulk (by decide) (by decide) l (by rw [b]; exact h4)⟩]
  exact ⟨_, rfl⟩
end TL

set_option Elab.async false
set_option linter.all false
set_option maxRecDepth 100000
set_option maxHeartbeats 4000000
/-! TL38: a < b of tuples, nested; only the places that are reached need be alike. -/
namespace PySem.SeqAt
open AutoSeq1 (wpAny_loadPart')
open MeetsSeq MeetsSeq2 MeetsSeq3 SeqRoads2
theorem tl_ltAt (a b : Addr) (xs ys : Array Value) (n m : Nat) (da db : Option Addr) (sa sb : Array (Option Value)) (e r : Nat → Bool) :
    Meets (Builtin.«tuple.__lt__» ⟨[.ref a, .ref b], []⟩)
      (fun A R s => s.heap.get? a = some ⟨.type "tuple", da, .seq xs n, sa⟩ ∧ s.heap.get? b = some ⟨.type "tuple", db, .seq ys m, sb⟩ ∧
        (∀ j (p : j < xs.size) (q : j < ys.size), EqAt A.in1 s xs[j] ys[j] (e j)) ∧ (∀ j (p : j < xs.size) (q : j < ys.size), (∀ i, i < j → e i = true) → e j = false → RcLt A.in1 s xs[j] ys[j] (r j)) ∧
        R (.ok (.ret (.bool (firstLt e r (decide (xs.size < ys.size)) (List.range (min xs.size ys.size)))))) s) :=
  .of_wp fun prog w A R s h => by
    obtain ⟨hp, g, d, tk, os⟩ := s
    obtain ⟨ha, hb, he, hr, h⟩ := h
    have f2 := AutoSeq1.sub_tuple_tuple
    have len : (xs.toList.zip ys.toList).length = min xs.size ys.size := by simp
    wp_walk using wpAny_loadPart' ha, wpAny_loadPart' hb, wpAny_forIn_list _ (fun rest c s' => c.1 = none ∧ s' = ⟨hp, g, d, tk, os⟩ ∧ ∃ i, rest = (xs.toList.zip ys.toList).drop i ∧ (∀ i', i' < i → e i' = true) ∧
      R (.ok (.ret (.bool (firstLt e r (decide (xs.size < ys.size)) ((List.range (min xs.size ys.size)).drop i))))) ⟨hp, g, d, tk, os⟩) _
    case turn =>
      rintro ⟨y, x⟩ rest c s' ⟨hc, rfl, i, hz, hi, hR⟩
      have il : i < (xs.toList.zip ys.toList).length := by
        rcases Nat.lt_or_ge i (xs.toList.zip ys.toList).length with q | q
        · exact q
        · rw [List.drop_of_length_le q] at hz; cases hz
      have im : i < min xs.size ys.size := len ▸ il
      have p : i < xs.size := Nat.lt_of_lt_of_le im (Nat.min_le_left _ _)
      have q : i < ys.size := Nat.lt_of_lt_of_le im (Nat.min_le_right _ _)
      rw [List.drop_eq_getElem_cons il] at hz
      injection hz with hyx hrest
      have hy : y = xs[i] := by have := congrArg Prod.fst hyx; simpa using this
      have hx : x = ys[i] := by have := congrArg Prod.snd hyx; simpa using this
      subst hy hx
      have dr : (List.range (min xs.size ys.size)).drop i = i :: (List.range (min xs.size ys.size)).drop (i + 1) := by simp [List.drop_eq_getElem_cons, im]
      rw [dr] at hR
      refine wpAny_bind (he i p q prog w _ _ ?_)
      cases hy : e i with
      | true =>
        rw [firstLt_yes hy] at hR
        wp_walk
        refine ⟨rfl, rfl, i + 1, hrest, fun i' h' => ?_, hR⟩
        rcases Nat.lt_or_ge i' i with z | z
        · exact hi i' z
        · rw [show i' = i by omega]; exact hy
      | false =>
        rw [firstLt_no hy] at hR
        have hk : ∀ (E Q : Value → Shared → Prop), Q (.bool (r i)) ⟨hp, g, d, tk, os⟩ → wpAny (model prog w) A.in1 (richCompare .Lt xs[i] ys[i]) Q E ⟨hp, g, d, tk, os⟩ := fun E Q => hr i p q hi hy prog w E Q
        wp_walk using hk
        exact ⟨_, rfl, hR⟩
    case fin =>
      rintro ⟨c1, c2⟩ s' ⟨hc, rfl, i, hz, hi, hR⟩
      simp only at hc
      subst hc
      have ge : min xs.size ys.size ≤ i := by
        rcases Nat.lt_or_ge i (xs.toList.zip ys.toList).length with q | q
        · rw [List.drop_eq_getElem_cons q] at hz; cases hz
        · exact len ▸ q
      rw [List.drop_of_length_le (by simpa using ge)] at hR
      wp_walk
      exact ⟨_, rfl, by simpa [Builtin.Tuple.tupleCompareSizes, firstLt] using hR⟩
    case h =>
      exact ⟨rfl, rfl, 0, rfl, fun _ z => absurd z (Nat.not_lt_zero _), by simpa using h⟩
theorem RcLt.tl_tuples {A : Around} {s : Shared} {a b : Addr} {xs ys : Array Value} {e r : Nat → Bool} (ha : s.heap.IsTuple a xs) (hb : s.heap.IsTuple b ys) (hu : A.units < cLine)
    (he : ∀ j (p : j < xs.size) (q : j < ys.size), EqAt A.in1 s xs[j] ys[j] (e j)) (hr : ∀ j (p : j < xs.size) (q : j < ys.size), (∀ i, i < j → e i = true) → e j = false → RcLt A.in1 s xs[j] ys[j] (r j)) :
    RcLt A s (.ref a) (.ref b) (firstLt e r (decide (xs.size < ys.size)) (List.range (min xs.size ys.size))) := fun prog w E Q h => by
  obtain ⟨⟨c1, d1, p1, s1⟩, o1, k1, n1, e1⟩ := id ha
  obtain ⟨⟨c2, d2, p2, s2⟩, o2, k2, n2, e2⟩ := id hb
  simp only at k1 e1 k2 e2
  subst k1 e1 k2 e2
  exact richCompare_meets_room (op := .Lt) ⟨_, o1, rfl⟩ ⟨_, o2, rfl⟩ F.slot_tuple_lt F.entry_tuple_lt (F.args_tuple_lt_2 _ _) (tl_ltAt a b xs ys n1 n2 d1 d2 s1 s2 e r)
    ⟨o1, o2, he, hr, ⟨(fun x => nomatch x), h⟩⟩ hu
end PySem.SeqAt
namespace TL
open PySem PySem.Spec PyProof.Rows L2
mutual
/-- x < y, by the first place that differs -/
def dLt : D → D → Option Bool
  | .int i, .int j => some (decide (i < j))
  | .str x, .str y => some (decide (x.cps.toList < y.cps.toList))
  | .tup xs, .tup ys => dLtL xs ys
  | _, _ => none
def dLtL : List D → List D → Option Bool
  | [], [] => some false
  | [], _ :: _ => some true
  | _ :: _, [] => some false
  | x :: xs, y :: ys => if deq x y then dLtL xs ys else dLt x y
end

open PySem.SeqAt PySem.W in
theorem first_d : ∀ {xs ys : List D} {ps qs : List PyData} {k : Bool}, toPL xs = some ps → toPL ys = some qs → dLtL xs ys = some k →
    firstLt (pairEq ps qs) (fun j => (dLt (xs.getD j .non) (ys.getD j .non)).getD false) (decide (ps.length < qs.length)) (List.range (min ps.length qs.length)) = k
  | [], [], ps, qs, k, e1, e2, h => by
    simp only [toPL, dLtL] at e1 e2 h
    cases e1; cases e2; cases h; simp [firstLt]
  | [], y :: ys, ps, qs, k, e1, e2, h => by
    simp only [toPL, dLtL] at e1 e2 h
    split at e2
    · cases e1; cases e2; cases h; simp [firstLt]
    · cases e2
  | x :: xs, [], ps, qs, k, e1, e2, h => by
    simp only [toPL, dLtL] at e1 e2 h
    split at e1
    · cases e1; cases e2; cases h; simp [firstLt]
    · cases e1
  | x :: xs, y :: ys, ps, qs, k, e1, e2, h => by
    simp only [toPL, dLtL] at e1 e2 h
    split at e1
    · rename_i p ps' a1 a2
      split at e2
      · rename_i q qs' b1 b2
        cases e1; cases e2
        have em : min (p :: ps').length (q :: qs').length = min ps'.length qs'.length + 1 := by
          rw [List.length_cons, List.length_cons]; omega
        have ed : decide ((p :: ps').length < (q :: qs').length) = decide (ps'.length < qs'.length) := by
          rw [List.length_cons, List.length_cons]; exact decide_eq_decide.mpr (by omega)
        rw [em, ed, List.range_succ_eq_map]
        have hd : PyData.eqv p q = deq x y := toP_deq a1 b1
        cases hx : deq x y with
        | true =>
          rw [hx, if_pos rfl] at h
          rw [firstLt_yes (show pairEq (p :: ps') (q :: qs') 0 = true from hd.trans hx), firstLt_map, ← first_d a2 b2 h]
          rfl
        | false =>
          rw [hx, if_neg Bool.false_ne_true] at h
          rw [firstLt_no (show pairEq (p :: ps') (q :: qs') 0 = false from hd.trans hx)]
          show (dLt x y).getD false = k
          rw [h]; rfl
      · cases e2
    · cases e1
open PySem.SeqAt in
theorem reach_d : ∀ {xs ys : List D} {ps qs : List PyData} {k : Bool} (j : Nat), toPL xs = some ps → toPL ys = some qs → dLtL xs ys = some k → j < ps.length → j < qs.length →
    (∀ i, i < j → pairEq ps qs i = true) → pairEq ps qs j = false → ∃ b, dLt (xs.getD j .non) (ys.getD j .non) = some b
  | [], _, ps, qs, k, j, e1, e2, h, h1, h2, h3, h4 => by simp only [toPL] at e1; cases e1; cases h1
  | x :: xs, [], ps, qs, k, j, e1, e2, h, h1, h2, h3, h4 => by simp only [toPL] at e2; cases e2; cases h2
  | x :: xs, y :: ys, ps, qs, k, j, e1, e2, h, h1, h2, h3, h4 => by
    simp only [toPL, dLtL] at e1 e2 h
    split at e1
    · rename_i p ps' a1 a2
      split at e2
      · rename_i q qs' b1 b2
        cases e1; cases e2
        have hd : PyData.eqv p q = deq x y := toP_deq a1 b1
        cases hx : deq x y with
        | true =>
          rw [hx, if_pos rfl] at h
          cases j with
          | zero =>
            have : pairEq (p :: ps') (q :: qs') 0 = true := hd.trans hx
            rw [this] at h4; cases h4
          | succ j => exact reach_d j a2 b2 h (Nat.lt_of_succ_lt_succ h1) (Nat.lt_of_succ_lt_succ h2) (fun i hi => h3 (i + 1) (Nat.succ_lt_succ hi)) h4
        | false =>
          rw [hx, if_neg Bool.false_ne_true] at h
          cases j with
          | zero => exact ⟨_, h⟩
          | succ j =>
            have : pairEq (p :: ps') (q :: qs') 0 = true := h3 0 (Nat.succ_pos _)
            have : PyData.eqv p q = true := this
            rw [hd, hx] at this; cases this
      · cases e2
    · cases e1
open PySem.SeqAt in
mutual
theorem rcLt_d : ∀ (x y : D) (p q : PyData) (k : Bool) (A : Around) (s : Shared) (a b : Value) (as bs : List Addr), toP x = some p → toP y = some q → p.canLay0 = true → q.canLay0 = true → dLt x y = some k → Reads s.heap a p as → Reads s.heap b q bs → A.units + min p.depth q.depth < cLine → RcLt A s a b k
  | .int i, y, p, q, k, A, s, a, b, as, bs, e1, e2, c1, c2, h, r1, r2, hu => by
    cases y with
    | int j =>
      simp only [toP, dLt] at e1 e2 h
      cases e1; cases e2; cases h
      cases r1; cases r2
      intro prog w E Q hq
      exact P.lt_int hq
    | _ => simp [dLt] at h
  | .str i, y, p, q, k, A, s, a, b, as, bs, e1, e2, c1, c2, h, r1, r2, hu => by
    cases y with
    | str j =>
      simp only [toP, dLt] at e1 e2 h
      cases e1; cases e2; cases h
      cases r1; cases r2
      intro prog w E Q hq
      exact P.lt_str hq
    | _ => simp [dLt] at h
  | .tup xs, y, p, q, k, A, s, a, b, as, bs, e1, e2, c1, c2, h, r1, r2, hu => by
    cases y with
    | tup ys =>
      simp only [toP, dLt] at e1 e2 h
      cases h1 : toPL xs with
      | none => rw [h1] at e1; cases e1
      | some ps =>
        cases h2 : toPL ys with
        | none => rw [h2] at e2; cases e2
        | some qs =>
          rw [h1] at e1; rw [h2] at e2; cases e1; cases e2
          cases r1 with
          | @tuple l o vs n _ as1 a1 a2 a3 a4 =>
            cases r2 with
            | @tuple l' o' vs' n' _ bs1 b1 b2 b3 b4 =>
              have n1 : vs.size = ps.length := by simpa using ReadsAll.length _ _ _ a4
              have n2 : vs'.size = qs.length := by simpa using ReadsAll.length _ _ _ b4
              have c1' : PyData.canLayAll0 ps = true := by simpa [PyData.canLay0] using c1
              have c2' : PyData.canLayAll0 qs = true := by simpa [PyData.canLay0] using c2
              rw [← first_d h1 h2 h, ← n1, ← n2]
              refine RcLt.tl_tuples ⟨_, a1, a2, _, a3⟩ ⟨_, b1, b2, _, b3⟩ (room_here hu) (fun j j1 j2 => ?_) fun j j1 j2 h3 h4 => ?_
              · have := eqAt_readsAll ps qs A.in1 s vs.toList vs'.toList _ _ a4 b4 c1' c2' (room_in hu) j (by simpa using j1) (by simpa using j2)
                simpa using this
              · obtain ⟨k', hk⟩ := reach_d j h1 h2 h (by omega) (by omega) h3 h4
                have := rcLt_dL xs ys ps qs k' A.in1 s vs.toList vs'.toList _ _ h1 h2 c1' c2' a4 b4 (room_in hu) j (by simpa using j1) (by simpa using j2) hk
                rw [hk]
                simpa using this
    | _ => simp [dLt] at h
  | .non, y, p, q, k, A, s, a, b, as, bs, e1, e2, c1, c2, h, r1, r2, hu => by simp [dLt] at h
  | .bl _, y, p, q, k, A, s, a, b, as, bs, e1, e2, c1, c2, h, r1, r2, hu => by simp [dLt] at h
  | .lst _, y, p, q, k, A, s, a, b, as, bs, e1, e2, c1, c2, h, r1, r2, hu => by simp [dLt] at h
  | .cls _, y, p, q, k, A, s, a, b, as, bs, e1, e2, c1, c2, h, r1, r2, hu => by simp [dLt] at h
  | .fn _ _, y, p, q, k, A, s, a, b, as, bs, e1, e2, c1, c2, h, r1, r2, hu => by simp [dLt] at h
  | .exc _ _, y, p, q, k, A, s, a, b, as, bs, e1, e2, c1, c2, h, r1, r2, hu => by simp [dLt] at h
  | .err _ _, y, p, q, k, A, s, a, b, as, bs, e1, e2, c1, c2, h, r1, r2, hu => by simp [dLt] at h
  | .lam _, y, p, q, k, A, s, a, b, as, bs, e1, e2, c1, c2, h, r1, r2, hu => by simp [dLt] at h
theorem rcLt_dL : ∀ (xs ys : List D) (ps qs : List PyData) (k : Bool) (A : Around) (s : Shared) (vs ws : List Value) (as bs : List Addr), toPL xs = some ps → toPL ys = some qs → PyData.canLayAll0 ps = true → PyData.canLayAll0 qs = true → ReadsAll s.heap vs ps as → ReadsAll s.heap ws qs bs →
    A.units + min (PyData.depthAll ps) (PyData.depthAll qs) < cLine → ∀ j (h1 : j < vs.length) (h2 : j < ws.length), dLt (xs.getD j .non) (ys.getD j .non) = some k → RcLt A s vs[j] ws[j] k
  | [], ys, ps, qs, k, A, s, vs, ws, as, bs, e1, e2, c1, c2, r1, r2, hu, j, h1, h2, h => by
    simp only [toPL] at e1; cases e1; cases r1; exact absurd h1 (Nat.not_lt_zero _)
  | x :: xs, [], ps, qs, k, A, s, vs, ws, as, bs, e1, e2, c1, c2, r1, r2, hu, j, h1, h2, h => by
    simp only [toPL] at e2; cases e2; cases r2; exact absurd h2 (Nat.not_lt_zero _)
  | x :: xs, y :: ys, ps, qs, k, A, s, vs, ws, as, bs, e1, e2, c1, c2, r1, r2, hu, j, h1, h2, h => by
    simp only [toPL] at e1 e2
    split at e1
    · rename_i p ps' a1 a2
      split at e2
      · rename_i q qs' b1 b2
        cases e1; cases e2
        have c1' : p.canLay0 = true ∧ PyData.canLayAll0 ps' = true := by simpa [PyData.canLayAll0] using c1
        have c2' : q.canLay0 = true ∧ PyData.canLayAll0 qs' = true := by simpa [PyData.canLayAll0] using c2
        cases r1 with
        | cons r rs =>
          cases r2 with
          | cons r' rs' =>
            cases j with
            | zero => exact rcLt_d x y p q k A s _ _ _ _ a1 b1 c1'.1 c2'.1 h r r' (room_head hu)
            | succ j => exact rcLt_dL xs ys ps' qs' k A s _ _ _ _ a2 b2 c1'.2 c2'.2 rs rs' (room_tail hu) j (Nat.lt_of_succ_lt_succ h1) (Nat.lt_of_succ_lt_succ h2) h
      · cases e2
    · cases e1
end
/-- x < y of two data -/
def cLtT (a b : D) : Option D := if ok 200 a && ok 200 b then (dLt a b).map .bl else none
theorem op_ltT {X : Cx} {C : Cn} (hK : X.K = C.K) {n : Nat} (hr : TRoom n X.A) : OpR X (compareOp .Lt) (rD C cLtT) := by
  intro p s τ H x y v u Q I rx ry ⟨a, b, d, ra, rb, e, k⟩
  unfold cLtT at e
  split at e
  · rename_i hc
    rw [Bool.and_eq_true] at hc
    cases el : dLt a b with
    | none => rw [el] at e; cases e
    | some kk =>
      rw [el] at e
      cases e
      obtain ⟨pa, ea, ca, da⟩ := ok_toP hc.1
      obtain ⟨pb, eb, cb, db⟩ := ok_toP hc.2
      obtain ⟨as, r1⟩ := Dp.reads I pa x v (hK ▸ ra.dp ea) rx
      obtain ⟨bs, r2⟩ := Dp.reads I pb y u (hK ▸ rb.dp eb) ry
      have hu := hr.u64
      exact rcLt_d a b pa pb kk X.A s v u as bs ea eb ca cb el r1 r2 (by omega) _ _ _ _ ⟨.bl _, H, I, rfl, k _ H (.refl H) .b⟩
  · cases e
end TL

set_option Elab.async false
set_option linter.all false
set_option maxRecDepth 100000
set_option maxHeartbeats 4000000
/-! TL39: sorted(texts); [..].index(x). -/
namespace TL
open PySem PySem.Spec PyProof.Rows L2
/-! ### texts in order -/
def tle (a b : Str) : Prop := ltCps b.cps.toList a.cps.toList = false
theorem tle_le {a b : Str} : tle a b ↔ a.cps.toList ≤ b.cps.toList := by
  unfold tle
  rw [ltCps_eq, decide_eq_false_iff_not]
  exact List.not_lt
theorem tle_tr {a b c : Str} (h : tle a b) (k : tle b c) : tle a c := tle_le.mpr (List.le_trans (tle_le.mp h) (tle_le.mp k))
theorem tle_an {a b : Str} (h : tle a b) (k : tle b a) : a = b := by
  have e : a.cps = b.cps := Array.toList_inj.mp (List.le_antisymm (tle_le.mp h) (tle_le.mp k))
  cases a; cases b
  simp only [Str.mk.injEq]
  exact e
theorem rising_pw : ∀ {l : List Str} {p : Str}, risingS p l = true → (p :: l).Pairwise tle
  | [], p, _ => by simp
  | x :: r, p, h => by
    simp only [risingS, Bool.and_eq_true, Bool.not_eq_true'] at h
    have ih := rising_pw h.2
    refine List.pairwise_cons.mpr ⟨fun y hy => ?_, ih⟩
    rcases List.mem_cons.mp hy with rfl | hy
    · exact h.1
    · exact tle_tr h.1 ((List.pairwise_cons.mp ih).1 y hy)
theorem sorted_pw {l : List Str} (h : sortedS l = true) : l.Pairwise tle := by
  cases l with
  | nil => exact .nil
  | cons x r => exact rising_pw h
def insT (x : Str) : List Str → List Str
  | [] => [x]
  | y :: ys => if ltCps y.cps.toList x.cps.toList = false then x :: y :: ys else y :: insT x ys
def sortT : List Str → List Str
  | [] => []
  | x :: xs => insT x (sortT xs)
theorem insT_perm (x : Str) : ∀ l : List Str, (insT x l).Perm (x :: l)
  | [] => .refl _
  | y :: ys => by
    unfold insT
    split
    · exact .refl _
    · exact ((insT_perm x ys).cons y).trans (.swap x y ys)
theorem sortT_perm : ∀ l : List Str, (sortT l).Perm l
  | [] => .refl _
  | x :: xs => (insT_perm x _).trans ((sortT_perm xs).cons x)
theorem insT_pw (x : Str) : ∀ {l : List Str}, l.Pairwise tle → (insT x l).Pairwise tle
  | [], _ => by simp [insT]
  | y :: ys, h => by
    have h1 := (List.pairwise_cons.mp h).1
    unfold insT
    split
    · rename_i c
      refine List.pairwise_cons.mpr ⟨fun z hz => ?_, h⟩
      rcases List.mem_cons.mp hz with rfl | hz
      · exact c
      · exact tle_tr (show tle x y from c) (h1 z hz)
    · rename_i c
      have yx : tle y x := by
        rcases List.le_total x.cps.toList y.cps.toList with q | q
        · exact absurd (tle_le.mpr q) c
        · exact tle_le.mpr q
      refine List.pairwise_cons.mpr ⟨fun z hz => ?_, insT_pw x (List.pairwise_cons.mp h).2⟩
      rcases List.mem_cons.mp ((insT_perm x ys).mem_iff.mp hz) with rfl | hz
      · exact yx
      · exact h1 z hz
theorem sortT_pw : ∀ l : List Str, (sortT l).Pairwise tle
  | [] => .nil
  | x :: xs => insT_pw x (sortT_pw xs)
theorem sort_one {ys xs : List Str} (h : ys.Perm xs) (k : sortedS ys = true) : ys = sortT xs :=
  List.Perm.eq_of_pairwise (le := tle) (fun a b _ _ => tle_an) (sorted_pw k) (sortT_pw xs) (h.trans (sortT_perm xs).symm)
theorem rpl_strs {C : Cn} {H : Hp} : ∀ ys : List Str, RpL C H (ys.map D.str) (ys.map V.str)
  | [] => by simp only [List.map_nil, RpL]
  | y :: ys => by
    simp only [List.map_cons, RpL]
    exact ⟨_, _, rfl, .s, rpl_strs ys⟩
section
variable {X : Cx} {C : Cn} {e : Expr} {p pos : Pos}
/-- sorted(x) of texts -/
def sSorted (m : SS → O Hd) : SS → O (List D) := fun σ => (m σ).bind fun h σ1 => match res σ1 h with
  | some (.lst ds) => match strsOf ds with
    | some ys => if ys.length < 64 then .ok ((sortT ys).map D.str) σ1 else .bad
    | none => .bad
  | _ => .bad
theorem mf_sorted {x : Str} {m : SS → O Hd} (hK : X.K = C.K) (hg : Gl X x) (hm : X.mg x = none) (hv : bootBuiltins x = some (.builtin "sorted")) (ha : MH X C e m) (hn : x ≠ "__name__" := by decide) (hdb : (x == ("__debug__" : Str)) = false := by decide)
    (he : starEach [e] X.env = (false, eval e X.env) :: starEach [] X.env := by rfl) (hpl : (backTo pos (starEach [] X.env)).any (·.1) = false := by rfl) : MF X C (.Call (.Name x p) [e] [] pos) (sSorted m) := by
  refine ⟨fun E W tk => (pe_callB (X := X.wish E) cr_sortedS hg hm hv (pa_cons (ha.pe E W tk) pa_nil he) hn hdb he hpl).imp fun τ H Q h => ?_⟩
  refine (tF_bind (R := RH C) h).mono fun v H1 ⟨d, r1, f1, G, σ, sr, p⟩ => ?_
  dsimp only at p
  split at p
  · rename_i ds eq
    split at p
    · rename_i ys es
      split at p
      · rename_i hl
        obtain ⟨a, vs, e1, s1, rl⟩ := (sr.res r1 eq).lst
        have := rl.strs es; subst this
        subst e1
        refine ⟨a, ys, rfl, by rw [show (X.wish E).K = C.K from hK]; exact s1, hl, fun zs l pz sz hl => ?_⟩
        have ez := sort_one pz sz; subst ez
        have sm : Same H1 (upd H1 l (.lst ((sortT ys).map V.str))) := same_new hl
        obtain ⟨n, sr2⟩ := sr.new (o := .lst ((sortT ys).map V.str)) hl
        exact p _ _ _ upd_same ((rpl_strs _).fx (.of_same sm)) n sr2 (.of_same sm)
      · exact p.elim
    · exact p.elim
  · exact p.elim
/-! ### index -/
def idxG : List D → D → Option Nat
  | [], _ => none
  | y :: ys, d => if deq y d then some 0 else (idxG ys d).map (· + 1)
def opIdx (a b : D) : Option D := match a with
  | .lst ds => if okL 60 ds && ok 60 b then (idxG ds b).map fun j => .int (j : Nat) else none
  | _ => none
theorem idxG_spec {d : D} {q : PyData} (hq : toP d = some q) : ∀ {ds : List D} {ps : List PyData} {j : Nat}, toPL ds = some ps → idxG ds d = some j → ∃ z, ps[j]? = some z ∧ PyData.eqv z q = true ∧ ∀ (m : Nat) (z' : PyData), m < j → ps[m]? = some z' → PyData.eqv z' q = false
  | [], ps, j, h, e => by simp [idxG] at e
  | y :: ys, ps, j, h, e => by
    simp only [toPL] at h
    split at h
    · rename_i p qs h1 h2
      cases h
      have hd : PyData.eqv p q = deq y d := toP_deq h1 hq
      unfold idxG at e
      split at e
      · rename_i c
        cases e
        exact ⟨p, rfl, hd.trans c, fun m _ h => absurd h (Nat.not_lt_zero _)⟩
      · rename_i c
        cases e2 : idxG ys d with
        | none => rw [e2] at e; cases e
        | some k =>
          rw [e2] at e
          cases e
          obtain ⟨z, a1, a2, a3⟩ := idxG_spec hq h2 e2
          refine ⟨z, by simpa using a1, a2, fun m z' hm hz => ?_⟩
          cases m with
          | zero =>
            simp only [List.getElem?_cons_zero, Option.some.injEq] at hz
            subst hz
            rw [hd]; simpa using c
          | succ m => exact a3 m z' (Nat.lt_of_succ_lt_succ hm) (by simpa using hz)
    · cases h
/-- x.index(e) -/
def sIndexL (ma : SS → O Hd) (mb : SS → O D) : SS → O D := fun σ => (ma σ).bind fun h1 σ1 => match res σ1 h1 with
  | some (.lst _) => (mb σ1).bind fun d2 σ2 => match res σ2 h1 with
    | some a => ofOpt (opIdx a d2) σ2
    | none => .bad
  | _ => .bad
theorem me_indexL {o : Expr} {apos cpos : Pos} {ma : SS → O Hd} {mb : SS → O D} {n : Nat} (hK : X.K = C.K) (hr : TRoom n X.A) (ho : MH X C o ma) (h : ME X C e mb)
    (hbase : attributeBase o "index" X.env (eval o X.env) = eval o X.env := by rfl)
    (hfew : ((backTo cpos (starEach [e] X.env)).all (fun x => !x.1) && (backToKw cpos (keywordEach [] X.env)).all (fun x => x.1.isSome) && decide ([e].length + ([] : List Keyword).length + (if ([] : List Keyword).isEmpty then 0 else 1) < 30)) = true := by rfl)
    (hline : (apos.endLine == cpos.line) = true := by rfl) (hs : starEach [e] X.env = (false, eval e X.env) :: starEach [] X.env := by rfl) (hplain : (backTo cpos (starEach [] X.env)).any (·.1) = false := by rfl) :
    ME X C (.Call (.Attribute o "index" apos) [e] [] cpos) (sIndexL ma mb) := by
  have hu := hr.u64
  refine ⟨fun E W tk => (pe_bm (X := X.wish E) PySem.F.plainAttrs_list PySem.F.slot_list_index PySem.F.type_list_index (mt_indexD (X := X.wish E) (show X.A.units + 65 < cLine by omega)) (ho.pe E W tk) (pa_cons (h.pe E W tk) pa_nil hs) hbase hfew hline hs hplain).imp fun τ H Q q => ?_⟩
  have eK : (X.wish E).K = C.K := hK
  rw [eK]
  refine (tG_bind (R := RH C) q).mono fun x H1 ⟨h1, r1, f1, G, σ, sr, p⟩ => ?_
  dsimp only at p
  split at p
  · rename_i ds e1
    obtain ⟨a, vs, ex, s1, rl⟩ := (sr.res r1 e1).lst
    refine ⟨by rw [ex]; exact .inl ⟨rfl, vs, s1⟩, ?_⟩
    refine (tG_bind (R := fun _ => Rp C) ⟨G, σ, sr, p⟩).mono fun y H2 ⟨d2, r2, f2, G2, σ2, sr2, p2⟩ => ?_
    dsimp only at p2
    split at p2
    · rename_i a2 e2
      have rb := sr2.res (r1.fx f2) e2
      cases eo : opIdx a2 d2 with
      | none => rw [eo] at p2; exact p2.elim
      | some d =>
        rw [eo] at p2
        unfold opIdx at eo
        split at eo
        · rename_i ds2
          split at eo
          · rename_i hc
            rw [Bool.and_eq_true] at hc
            cases ej : idxG ds2 d2 with
            | none => rw [ej] at eo; cases eo
            | some j =>
              rw [ej] at eo
              cases eo
              obtain ⟨ps, pe1, pc, pd⟩ := okL_toPL hc.1
              obtain ⟨q2, qe, qc, qd⟩ := ok_toP hc.2
              obtain ⟨z, z1, z2, z3⟩ := idxG_spec qe pe1 ej
              have pl : toP (.lst ds2) = some (.list ps) := by simp only [toP, pe1, Option.map_some]
              have dl : Dp C.K H2 x (.list ps) := rb.dp pl
              refine ⟨a, y, q2, ps, j, z, ex, rfl, ex ▸ dl, r2.rb.dp qe, ?_, ?_, z1, z2, z3, p2 _ H2 .i sr2 (.refl _)⟩
              · unfold SeqAt.shaped
                have : (PyData.list ps).depth = PyData.depthAll ps + 1 := by simp only [PyData.depth]
                rw [this]
                simp only [PyData.canLay0, pc, Bool.true_and, decide_eq_true_eq]
                omega
              · unfold SeqAt.shaped
                simp only [qc, Bool.true_and, decide_eq_true_eq]
                omega
          · cases eo
        · cases eo
    · exact p2.elim
  · exact p.elim
end
end TL

set_option Elab.async false
set_option linter.all false
set_option maxRecDepth 100000
set_option maxHeartbeats 4000000
/-! TL40: a new list that is two lists; repr of truth values and None. -/
namespace TL
open PySem PySem.Spec PyProof.Rows L2
def fReprA : D → Option D
  | .bl b => some (.str (if b then "True" else "False"))
  | .non => some (.str "None")
  | d => fRepr d
section
variable {X : Cx} {C : Cn} {n : Nat} {a b : Expr} {pos : Pos}
theorem cr_reprA (hK : X.K = C.K) (hr : TRoom n X.A) : CallR X (.builtin "repr") (rU C fReprA) := by
  intro pins s σ H xs us Q I r h
  obtain ⟨x, a, d, ex, ra, e, q⟩ := h
  cases a with
  | bl b =>
    subst ex
    obtain ⟨u, rfl, rx⟩ := vals1 r
    have := ra.bl; subst this
    cases e
    have : u = .bool b := by cases rx; rfl
    subst this
    refine PySem.P.repr_of_bool ⟨.str (if b then "True" else "False"), H, I.tok _, ⟨s.toks, ?_⟩, q _ H (.refl H) .s⟩
    cases b <;> rfl
  | non =>
    subst ex
    obtain ⟨u, rfl, rx⟩ := vals1 r
    have := ra.non; subst this
    cases e
    have : u = .none := by cases rx; rfl
    subst this
    exact PySem.P.repr_of_none ⟨.str _, H, I.tok _, ⟨_, rfl⟩, q _ H (.refl H) .s⟩
  | _ => exact cr_repr hK hr pins s σ H xs us Q I r ⟨x, _, d, ex, ra, e, q⟩
/-- x + y of lists, kept as a list of one's own -/
def sCat (ma mb : SS → O Hd) : SS → O (List D) := fun σ => (ma σ).bind fun h1 σ1 => (mb σ1).bind fun h2 σ2 => match res σ2 h1, res σ2 h2 with
  | some (.lst xs), some (.lst ys) => if xs.length + ys.length ≤ LIM then .ok (xs ++ ys) σ2 else .bad
  | _, _ => .bad
theorem mf_cat {ma mb : SS → O Hd} (hK : X.K = C.K) (ha : MH X C a ma) (hb : MH X C b mb) : MF X C (.BinOp a .Add b pos) (sCat ma mb) := by
  refine ⟨fun E W tk => (pe_op (op_catL (X := X.wish E)) (ha.pe E W tk) (hb.pe E W tk)).imp fun τ H Q h => ?_⟩
  rw [show (X.wish E).K = C.K from hK]
  refine (tF_bind (R := RH C) h).mono fun x H1 ⟨h1, r1, f1, q1⟩ => ?_
  refine (tF_bind (R := RH C) q1).mono fun y H2 ⟨h2, r2, f2, G, σ, sr, p⟩ => ?_
  dsimp only at p
  split at p
  · rename_i xs ys e1 e2
    split at p
    · rename_i hl
      obtain ⟨l, vs, ex, s1, rl1⟩ := (sr.res (r1.fx f2) e1).lst
      obtain ⟨m, ws, ey, s2, rl2⟩ := (sr.res r2 e2).lst
      refine ⟨l, m, vs, ws, ex, ey, s1, s2, by rw [LIM_eq, rl1.length, rl2.length]; exact hl, fun q hq => ?_⟩
      have sm : Same H2 (upd H2 q (.lst (vs ++ ws))) := same_new hq
      obtain ⟨n, sr2⟩ := sr.new (o := .lst (vs ++ ws)) hq
      exact p _ _ _ upd_same ((rl1.append rl2).fx (.of_same sm)) n sr2 (.of_same sm)
    · exact p.elim
  · exact p.elim
end
end TL

set_option Elab.async false
set_option linter.all false
set_option maxRecDepth 100000
set_option maxHeartbeats 4000000
/-! TL41: the module's tuples, their objects. -/
namespace TL
open PySem PySem.Spec PyProof.Rows L2
def TupObj0 (o : Obj) (zs : List Str) : Prop := ∃ its n sl, o = ⟨.type "tuple", none, .seq its n, sl⟩ ∧ its.size ≤ sizeLine ∧ StrIts its.toList zs
theorem TupObj0.to {o : Obj} {zs : List Str} (h : TupObj0 o zs) : TupObj o zs := by
  obtain ⟨its, n, sl, e, h1, h2⟩ := h
  exact ⟨none, its, n, sl, e, h1, h2⟩
theorem tup_o {K : PySem.W.Frag} {a : Addr} {o : Obj} {zs : List Str} (l : K.lookup a = some o) (h : TupObj0 o zs) : ∃ o, K.lookup a = some o ∧ o.cls = .type "tuple" ∧ o.dict = none := by
  obtain ⟨its, n, sl, rfl, h1, h2⟩ := h
  exact ⟨_, l, rfl, rfl⟩
end TL

set_option Elab.async false
set_option linter.all false
set_option maxRecDepth 100000
set_option maxHeartbeats 4000000
/-! TL42: plain lemmas over the combinators (out of the texts of k02). -/
namespace TL
open PySem L2
mutual
theorem ok_mono : ∀ {n m : Nat} {d : D}, n ≤ m → ok n d = true → ok m d = true
  | _, _, .non, _, _ | _, _, .bl _, _, _ | _, _, .int _, _, _ => by simp only [ok]
  | _, _, .str _, _, h => by simp only [ok] at h ⊢; exact h
  | 0, _, .tup _, _, h | 0, _, .lst _, _, h => by simp [ok] at h
  | n + 1, 0, .tup _, h, _ | n + 1, 0, .lst _, h, _ => by omega
  | n + 1, m + 1, .tup ds, h, e => by simp only [ok] at e ⊢; exact okL_mono (by omega) e
  | n + 1, m + 1, .lst ds, h, e => by simp only [ok] at e ⊢; exact okL_mono (by omega) e
  | _, _, .cls _, _, h | _, _, .fn _ _, _, h | _, _, .exc _ _, _, h | _, _, .err _ _, _, h | _, _, .lam _, _, h => by simp [ok] at h
theorem okL_mono : ∀ {n m : Nat} {ds : List D}, n ≤ m → okL n ds = true → okL m ds = true
  | _, _, [], _, _ => by simp only [okL]
  | n, m, d :: ds, h, e => by
    simp only [okL, Bool.and_eq_true] at e ⊢
    exact ⟨ok_mono h e.1, okL_mono h e.2⟩
end
theorem okL_iff {n : Nat} : ∀ {ds : List D}, okL n ds = true ↔ ∀ d ∈ ds, ok n d = true
  | [] => by simp [okL]
  | d :: ds => by simp only [okL, Bool.and_eq_true, List.mem_cons, forall_eq_or_imp, okL_iff (ds := ds)]
theorem ok_tup {n : Nat} {ds : List D} : ok (n + 1) (.tup ds) = true ↔ ∀ d ∈ ds, ok n d = true := by simp only [ok]; exact okL_iff
theorem ok_lst {n : Nat} {ds : List D} : ok (n + 1) (.lst ds) = true ↔ ∀ d ∈ ds, ok n d = true := by simp only [ok]; exact okL_iff
theorem ok_down {n : Nat} {ds : List D} (h : ok n (.tup ds) = true) : ∀ d ∈ ds, ok n d = true := by
  cases n with
  | zero => simp [ok] at h
  | succ n => exact fun d hd => ok_mono (Nat.le_succ n) (ok_tup.mp h d hd)
theorem ok_ty {n : Nat} {d : D} (h : ok n d = true) : ∃ s, tyN d = some s := by
  cases d <;> first | exact ⟨_, rfl⟩ | (exfalso; cases n <;> simp [ok] at h)
def whole (d : D) (a b : Int) : Bool := match d with | .int i => decide (a ≤ i) && decide (i ≤ b) | _ => false
theorem deqL_snoc (x : D) : ∀ E : List D, deqL (E ++ [x]) [] = false
  | [] => by simp [deqL]
  | e :: E => by simp [deqL]
theorem okL_app {n : Nat} {xs ys : List D} : okL n (xs ++ ys) = true ↔ okL n xs = true ∧ okL n ys = true := by
  simp only [okL_iff, List.mem_append]
  constructor
  · exact fun h => ⟨fun d hd => h d (.inl hd), fun d hd => h d (.inr hd)⟩
  · exact fun h d hd => hd.elim (h.1 d) (h.2 d)
theorem cond_t {σ : SS} {E : List D} (e : σ[1]? = some (some (.own (.lst E)))) (h : okL 199 E = true) : (sB (sOp cNe (sHn 1) (sHv (sFz (sLs sNil))))) σ = .ok (!E.isEmpty) σ := by
  have z : deqL E [] = E.isEmpty := by cases E <;> simp [deqL]
  simp [sB, sOp, sHn, e, O.bind, sHv, sFz, sLs, sNil, LIM, res, look, ofOpt, cNe, ok, okL, h, deq, z]
theorem while_go {c : SS → O Bool} {b : SS → OS} {f : Nat} {σ σ1 : SS} (h : c σ = .ok true σ) (hb : b σ = .nx σ1) : sWhile c b (f + 1) σ = sWhile c b f σ1 := by
  simp only [sWhile, h, O.bindS, if_true, hb]
theorem while_rt {c : SS → O Bool} {b : SS → OS} {f : Nat} {σ σ1 : SS} {d : D} (h : c σ = .ok true σ) (hb : b σ = .rt d σ1) : sWhile c b (f + 1) σ = .rt d σ1 := by
  simp only [sWhile, h, O.bindS, if_true, hb]
theorem while_end {c : SS → O Bool} {b : SS → OS} {f : Nat} {σ : SS} (h : c σ = .ok false σ) : sWhile c b (f + 1) σ = .nx σ := by
  simp only [sWhile, h, O.bindS, Bool.false_eq_true, if_false]
theorem t32 (a b c d e : D) : deq (.tup [a, b]) (.tup [c, d, e]) = false := by
  show (deq a c && (deq b d && false)) = false
  simp
theorem t31 (a c d e : D) : deq (.tup [c, d, e]) (.tup [a]) = false := by
  show (deq c a && false) = false
  simp
theorem t30 (c d e : D) : deq (.tup [c, d, e]) (.tup []) = false := rfl
theorem dqs (a b : Str) : deq (.str a) (.str b) = (a == b) := rfl
theorem dqi (a b : Int) : deq (.int a) (.int b) = (a == b) := rfl
theorem ok_head {n : Nat} {x : D} {args : List D} (h : ok n (.tup (x :: args)) = true) : ∃ s, tyN x = some s := ok_ty (ok_down h x List.mem_cons_self)
theorem cut_1 (x : D) (args : List D) : cut (x :: args) (some 1) none = args := by
  have : min 1 (args.length + 1) = 1 := by omega
  simp [cut, HT.sIx, this]
theorem cut_12 (x : D) (args : List D) : cut (x :: args) (some 1) (some 2) = args.take 1 := by
  cases args with
  | nil => simp [cut, HT.sIx]
  | cons y r =>
    have : min 1 (r.length + 1 + 1) = 1 := by omega
    have h2 : min 2 (r.length + 1 + 1) = 2 := by omega
    simp [cut, HT.sIx, this, h2]
theorem forL_nx {g : D → SS → Option SS} {b : SS → OS} {d : D} {ds : List D} {σ σ1 σ2 : SS} (hg : g d σ = some σ1) (hb : b σ1 = .nx σ2) : sForL g b (d :: ds) σ = sForL g b ds σ2 := by
  simp only [sForL, hg, hb]
theorem forL_rt {g : D → SS → Option SS} {b : SS → OS} {d r : D} {ds : List D} {σ σ1 σ2 : SS} (hg : g d σ = some σ1) (hb : b σ1 = .rt r σ2) : sForL g b (d :: ds) σ = .rt r σ2 := by
  simp only [sForL, hg, hb]
theorem r62n (n : Nat) (h : n ≤ 1000) : R62 (n : Int) = true := by
  simp only [R62, Bool.and_eq_true, decide_eq_true_eq]
  omega
theorem rng_3 {m n o : SS → O D} {σ : SS} {a b : Nat} (e1 : m σ = .ok (.int (a : Int)) σ) (e2 : n σ = .ok (.int (b : Int)) σ) (e3 : o σ = .ok (.int (-1)) σ) (h1 : R62 (a : Int) = true) (h2 : R62 (b : Int) = true) : sRng3 m n o σ = .ok (downFrom (a : Int) ((a : Int) - (b : Int)).toNat) σ := by
  unfold sRng3
  rw [e1]
  unfold O.bind
  dsimp only
  rw [e2]
  dsimp only
  rw [e3]
  dsimp only
  exact if_pos ⟨h1, h2, rfl⟩
theorem for_go {mi : SS → O (List D)} {g : D → SS → Option SS} {b : SS → OS} {σ σ1 : SS} {ds : List D} (h : mi σ = .ok ds σ1) : sFor mi g b σ = sForL g b ds σ1 := by
  simp only [sFor, h, O.bindS]
theorem cei (a b : Int) : cEq (.int a) (.int b) = some (.bl (a == b)) := rfl
theorem ces (a b : Str) (h : PyData.strOk a = true) (h2 : PyData.strOk b = true) : cEq (.str a) (.str b) = some (.bl (a == b)) := by simp [cEq, ok, h, h2, deq]
def numF : List D → Nat → List D
  | [], _ => []
  | x :: xs, i => .tup [.int (i : Nat), x] :: numF xs (i + 1)
theorem numF_eq : ∀ (ds : List D) (j : Nat), (ds.mapIdx fun i d => D.tup [.int ((i + j : Nat) : Int), d]) = numF ds j
  | [], j => rfl
  | d :: ds, j => by
    rw [List.mapIdx_cons]
    unfold numF
    congr 1
    · simp
    · rw [← numF_eq ds (j + 1)]
      refine congrArg (fun g => List.mapIdx g ds) ?_
      funext i x
      rw [show i + 1 + j = i + (j + 1) by omega]
theorem num_eq (ds : List D) : num ds = numF ds 0 := (numF_eq ds 0)
theorem sum_ints : ∀ ns : List Nat, intsOf (ns.map fun n : Nat => D.int (n : Int)) = some (ns.map fun n : Nat => (n : Int))
  | [] => rfl
  | n :: ns => by simp [intsOf, sum_ints ns]
theorem sum_cast : ∀ ns : List Nat, (ns.map fun n : Nat => (n : Int)).sum = ((ns.sum : Nat) : Int)
  | [] => rfl
  | n :: ns => by simp [sum_cast ns]
theorem seq_nx {a b : SS → OS} {σ σ1 : SS} (h : a σ = .nx σ1) : sSeq a b σ = b σ1 := by simp only [sSeq, h]
theorem seq_rt {a b : SS → OS} {σ σ1 : SS} {d : D} (h : a σ = .rt d σ1) : sSeq a b σ = .rt d σ1 := by simp only [sSeq, h]
theorem runB_rt {n np : Nat} {body : SS → OS} {as os : List SD} {d : D} {σ : SS} (hl : as.length = np) (h : body (startS n as) = .rt d σ) (ho : outsAt σ 0 as = some os) : runB n np body as = .ok d os := by
  unfold runB
  rw [if_pos hl, h]
  dsimp only
  rw [ho]
theorem rng_j {m : SS → O D} {σ : SS} {j : Int} (e1 : m σ = .ok (.int j) σ) (h1 : R62 j = true) : sRng1 m σ = .ok (TL.upTo 0 j.toNat) σ := by
  simp only [sRng1, e1, O.bind, h1, if_true]
theorem rng_1 {m : SS → O D} {σ : SS} {a : Nat} (e1 : m σ = .ok (.int (a : Int)) σ) (h1 : R62 (a : Int) = true) : sRng1 m σ = .ok (TL.upTo 0 a) σ := by
  have e := rng_j e1 h1
  rw [Int.toNat_natCast] at e
  exact e
theorem cut_t (xs : List D) (j : Nat) (h : j ≤ xs.length) : cut xs none (some (j : Int)) = xs.take j := by
  simp only [cut, HT.sIx_none, HT.sIx_nat, List.drop_zero, Nat.sub_zero]
  rw [Nat.min_eq_left h]
theorem cut_d (xs : List D) (j : Nat) (h : j ≤ xs.length) : cut xs (some (j : Int)) none = xs.drop j := by
  simp only [cut, HT.sIx_none, HT.sIx_nat]
  rw [Nat.min_eq_left h]
  exact List.take_of_length_le (by simp)
theorem if_no {c : SS → O Bool} {a : SS → OS} {σ σ1 : SS} (h : c σ = .ok false σ1) : sIfS c a (fun σ => .nx σ) σ = .nx σ1 := by simp only [sIfS, h, O.bindS, Bool.false_eq_true, if_false]
theorem if_yes {c : SS → O Bool} {a b : SS → OS} {σ σ1 : SS} (h : c σ = .ok true σ1) : sIfS c a b σ = a σ1 := by simp only [sIfS, h, O.bindS, if_true]
mutual
theorem ok_nolam : ∀ {n : Nat} {d : D}, ok n d = true → noLam d = true
  | _, .non, _ | _, .bl _, _ | _, .int _, _ | _, .str _, _ => by simp only [noLam]
  | 0, .tup _, h | 0, .lst _, h => by simp [ok] at h
  | n + 1, .tup ds, h => by simp only [ok] at h; simp only [noLam]; exact okL_nolam h
  | n + 1, .lst ds, h => by simp only [ok] at h; simp only [noLam]; exact okL_nolam h
  | _, .cls _, h | _, .fn _ _, h | _, .exc _ _, h | _, .err _ _, h | _, .lam _, h => by simp [ok] at h
theorem okL_nolam : ∀ {n : Nat} {ds : List D}, okL n ds = true → noLamL ds = true
  | _, [], _ => by simp only [noLamL]
  | n, d :: ds, h => by
    simp only [okL, Bool.and_eq_true] at h
    simp only [noLamL, Bool.and_eq_true]
    exact ⟨ok_nolam h.1, okL_nolam h.2⟩
end
theorem cNeS_refl (x : Str) : cNeS (.str x) (.str x) = some (.bl false) := by simp [cNeS]
theorem upTo_ints (n : Nat) : ∀ x ∈ TL.upTo 0 n, ∃ i : Int, x = .int i := fun x hx => by
  unfold TL.upTo at hx
  obtain ⟨i, _, e⟩ := List.mem_map.mp hx
  exact ⟨_, e.symm⟩
theorem forL_all {g : D → SS → Option SS} {b : SS → OS} (I : SS → Prop) (Pd : D → Prop) (step : ∀ d σ, Pd d → I σ → ∃ σ1 σ2, g d σ = some σ1 ∧ b σ1 = .nx σ2 ∧ I σ2) : ∀ ds σ, (∀ d ∈ ds, Pd d) → I σ → ∃ σ', sForL g b ds σ = .nx σ' ∧ I σ'
  | [], σ, _, h => ⟨σ, rfl, h⟩
  | d :: ds, σ, hd, h => by
    obtain ⟨σ1, σ2, e1, e2, h2⟩ := step d σ (hd d List.mem_cons_self) h
    obtain ⟨σ', e3, h3⟩ := forL_all I Pd step ds σ2 (fun x hx => hd x (List.mem_cons_of_mem _ hx)) h2
    exact ⟨σ', (forL_nx e1 e2).trans e3, h3⟩
theorem ints_of : ∀ ns : List Int, intsOf (ns.map D.int) = some ns
  | [] => rfl
  | n :: ns => by simp [intsOf, ints_of ns]
theorem num_mem {ds : List D} {d : D} (h : d ∈ num ds) : ∃ i, ∃ (hi : i < ds.length), d = .tup [.int (i : Nat), ds[i]] := by
  unfold num at h
  obtain ⟨i, hi, e⟩ := List.mem_mapIdx.mp h
  exact ⟨i, hi, e.symm⟩
theorem ixn (xs : List D) (j : Nat) (h : j < xs.length) : opIx (.lst xs) (.int (j : Int)) = some (xs.getD j .non) := by
  have h1 : (j : Int) < xs.length := by omega
  simp [opIx, atI, ixN, h1, List.getD, h]
theorem lc_cons {vs : List Nat} {g : D → SS → Option SS} {m : SS → O D} {d x : D} {ds acc : List D} {σ σ1 σ2 : SS} (hg : g d σ = some σ1) (hm : m σ1 = .ok x σ2) : sLcL vs g sYes m (d :: ds) acc σ = sLcL vs g sYes m ds (acc ++ [x]) (wipeS σ2 vs) := by
  simp only [sLcL, hg, sYes, hm]
theorem rng_c {m n o : SS → O D} {σ : SS} {i j k : Int} (e1 : m σ = .ok (.int i) σ) (e2 : n σ = .ok (.int j) σ) (e3 : o σ = .ok (.int k) σ) (h : rgOk i j k = true) : sRngC m n o σ = .ok (steps i k (Builtin.Range.rangeSize i j k).toNat) σ := by
  simp only [sRngC, e1, e2, e3, O.bind, h, if_true]
theorem flat1 (u : D) : ∀ n : Nat, (List.replicate n [u]).flatten = List.replicate n u
  | 0 => rfl
  | n + 1 => by rw [List.replicate_succ, List.flatten_cons, flat1 u n, List.replicate_succ]; rfl
theorem rep_go {ma : SS → O (List D)} {mb : SS → O D} {σ : SS} {ds : List D} {k : Int} (ha : ma σ = .ok ds σ) (hb : mb σ = .ok (.int k) σ) (h : -1000 ≤ k ∧ k ≤ 4000 ∧ ds.length ≤ 4000) : sRep ma mb σ = .ok (List.replicate k.toNat ds).flatten σ := by
  simp only [sRep, ha, hb, O.bind]
  exact if_pos h
end TL

set_option Elab.async false
set_option linter.all false
set_option maxRecDepth 100000
set_option maxHeartbeats 4000000
/-! TL43: short texts in data; lambdas; one-sign texts. -/
namespace TL
open PySem L2 PyProof.Rows
/-! ### data with short texts -/
def sok (x : Str) : Bool := PyData.strOk x && decide (x.length ≤ 100)
mutual
def oks : Nat → D → Bool
  | _, .non => true
  | _, .bl _ => true
  | _, .int _ => true
  | _, .str x => sok x
  | n + 1, .tup ds => oksL n ds
  | n + 1, .lst ds => oksL n ds
  | _, _ => false
def oksL : Nat → List D → Bool
  | _, [] => true
  | n, d :: ds => oks n d && oksL n ds
end
mutual
theorem oks_ok : ∀ {n : Nat} {d : D}, oks n d = true → ok n d = true
  | _, .non, _ | _, .bl _, _ | _, .int _, _ => by simp only [ok]
  | _, .str _, h => by simp only [oks, sok, Bool.and_eq_true] at h; simp only [ok]; exact h.1
  | 0, .tup _, h | 0, .lst _, h => by simp [oks] at h
  | n + 1, .tup ds, e => by simp only [oks] at e; simp only [ok]; exact oksL_okL e
  | n + 1, .lst ds, e => by simp only [oks] at e; simp only [ok]; exact oksL_okL e
  | _, .cls _, h | _, .fn _ _, h | _, .exc _ _, h | _, .err _ _, h | _, .lam _, h => by simp [oks] at h
theorem oksL_okL : ∀ {n : Nat} {ds : List D}, oksL n ds = true → okL n ds = true
  | _, [], _ => by simp only [okL]
  | n, d :: ds, e => by
    simp only [oksL, Bool.and_eq_true] at e
    simp only [okL, Bool.and_eq_true]
    exact ⟨oks_ok e.1, oksL_okL e.2⟩
end
mutual
theorem oks_mono : ∀ {n m : Nat} {d : D}, n ≤ m → oks n d = true → oks m d = true
  | _, _, .non, _, _ | _, _, .bl _, _, _ | _, _, .int _, _, _ => by simp only [oks]
  | _, _, .str _, _, h => by simp only [oks] at h ⊢; exact h
  | 0, _, .tup _, _, h | 0, _, .lst _, _, h => by simp [oks] at h
  | n + 1, 0, .tup _, h, _ | n + 1, 0, .lst _, h, _ => by omega
  | n + 1, m + 1, .tup ds, h, e => by simp only [oks] at e ⊢; exact oksL_mono (by omega) e
  | n + 1, m + 1, .lst ds, h, e => by simp only [oks] at e ⊢; exact oksL_mono (by omega) e
  | _, _, .cls _, _, h | _, _, .fn _ _, _, h | _, _, .exc _ _, _, h | _, _, .err _ _, _, h | _, _, .lam _, _, h => by simp [oks] at h
theorem oksL_mono : ∀ {n m : Nat} {ds : List D}, n ≤ m → oksL n ds = true → oksL m ds = true
  | _, _, [], _, _ => by simp only [oksL]
  | n, m, d :: ds, h, e => by
    simp only [oksL, Bool.and_eq_true] at e ⊢
    exact ⟨oks_mono h e.1, oksL_mono h e.2⟩
end
theorem oksL_iff {n : Nat} : ∀ {ds : List D}, oksL n ds = true ↔ ∀ d ∈ ds, oks n d = true
  | [] => by simp [oksL]
  | d :: ds => by simp only [oksL, Bool.and_eq_true, List.mem_cons, forall_eq_or_imp, oksL_iff (ds := ds)]
theorem oks_tup {n : Nat} {ds : List D} : oks (n + 1) (.tup ds) = true ↔ ∀ d ∈ ds, oks n d = true := by simp only [oks]; exact oksL_iff
theorem oks_lst {n : Nat} {ds : List D} : oks (n + 1) (.lst ds) = true ↔ ∀ d ∈ ds, oks n d = true := by simp only [oks]; exact oksL_iff
theorem oks_down {n : Nat} {ds : List D} (h : oks n (.tup ds) = true) : ∀ d ∈ ds, oks n d = true := by
  cases n with
  | zero => simp [oks] at h
  | succ n => exact fun d hd => oks_mono (Nat.le_succ n) (oks_tup.mp h d hd)
theorem sok_len {x : Str} (h : sok x = true) : x.length ≤ 16777216 := by
  simp only [sok, Bool.and_eq_true, decide_eq_true_eq] at h
  omega
theorem sok_ok {x : Str} (h : sok x = true) : PyData.strOk x = true := by
  simp only [sok, Bool.and_eq_true] at h
  exact h.1
/-! ### lambdas -/
theorem lam_okN {N : Nat} {caps : List Nat} {m : SS → O D} {bs : List D} {d : D} {σ' : SS} (hb : noLamL bs = true) (hd : noLam d = true) (h : m (putC (List.replicate N none) caps bs) = .ok d σ') : lamRes N caps m bs = .ok d := by
  unfold lamRes
  rw [if_pos hb, h]
  simp [hd]
theorem lam_exN {N : Nat} {caps : List Nat} {m : SS → O D} {bs : List D} {x : Ex} {σ' : SS} (hb : noLamL bs = true) (hd : noLam x.d = true) (h : m (putC (List.replicate N none) caps bs) = .ex x σ') : lamRes N caps m bs = .ex x := by
  unfold lamRes
  rw [if_pos hb, h]
  simp [hd]
theorem sLam_goN {n : Nat} {G : (List D → TR) → SS → OS} {σ : SS} {caps : List Nat} {bs : List D} {r : D} {δ : List D → TR} {os : List SD} (hσ : capsOf σ caps = some bs) (hb : noLamL bs = true) (hr : runB n 1 (G δ) [.val (.lam bs)] = .ok r os) (h : noLam r = true) : sLam n G δ caps σ = .ok r σ := by
  unfold sLam
  rw [hσ]
  simp [hb, hr, h]
/-- a path: small numbers -/
def Pth (q : List D) : Prop := (∀ x ∈ q, ∃ i : Nat, x = .int i ∧ i ≤ 10) ∧ q.length ≤ 200
theorem Pth.nil : Pth [] := ⟨fun _ h => (by cases h), by decide⟩
theorem Pth.okL {q : List D} (h : Pth q) (n : Nat) : okL n q = true := by
  rw [okL_iff]
  intro x hx
  obtain ⟨i, rfl, _⟩ := h.1 x hx
  simp [ok]
theorem Pth.noLam {q : List D} (h : Pth q) : noLamL q = true := okL_nolam (h.okL 0)
theorem Pth.small : ∀ {q : List D}, Pth q → smallL q = true ∧ bulkL q ≤ q.length
  | [], _ => ⟨by simp only [smallL], by simp [bulkL]⟩
  | x :: q, h => by
    obtain ⟨i, rfl, hi⟩ := h.1 x List.mem_cons_self
    obtain ⟨h1, h2⟩ := Pth.small (q := q) ⟨fun y hy => h.1 y (List.mem_cons_of_mem _ hy), by have := h.2; simp at this; omega⟩
    refine ⟨?_, ?_⟩
    · simp only [smallL, TL.small, h1, Bool.and_true, decide_eq_true_eq]; omega
    · simp only [bulkL, bulkD, List.length_cons]; omega
theorem Pth.snoc {q : List D} (h : Pth q) {i : Nat} (hi : i ≤ 10) (hl : q.length < 200) : Pth (q ++ [.int (i : Nat)]) := ⟨fun x hx => by
  rcases List.mem_append.mp hx with hx | hx
  · exact h.1 x hx
  · exact ⟨i, List.mem_singleton.mp hx, hi⟩, by simp; omega⟩
/-! ### a text of one sign -/
/-- the letters a to f -/
def isAF (s : Str) : Bool := match s.cps.toList with
  | [c] => decide (97 ≤ c ∧ c ≤ 102)
  | _ => false
theorem str_one {s : Str} (h : s.length = 1) : ∃ c, s = ⟨#[c]⟩ := by
  obtain ⟨⟨l⟩⟩ := s
  have h : l.length = 1 := h
  match l, h with
  | [c], _ => exact ⟨c, rfl⟩
theorem af_in (s : Str) (h : s.length = 1) : hasSub "abcdef" s = isAF s := by
  obtain ⟨c, rfl⟩ := str_one h
  unfold hasSub
  rw [PySem.StrLaws.found_one, show ("abcdef" : Str).cps.toList = [97, 98, 99, 100, 101, 102] by decide +kernel]
  unfold isAF
  rw [show (⟨#[c]⟩ : Str).cps.toList = [c] from rfl]
  simp only [List.mem_cons, List.not_mem_nil, or_false]
  exact decide_eq_decide.mpr ⟨fun h => by omega, fun h => by omega⟩
theorem af_one {s : Str} (h : isAF s = true) : s.length = 1 := by
  unfold isAF at h
  split at h
  · rename_i c e
    show s.cps.size = 1
    rw [← Array.length_toList, e]; rfl
  · cases h
theorem af_le (s : Str) (h : s.length = 1) : (!decide (s.cps.toList < ("a" : Str).cps.toList) && !decide (("f" : Str).cps.toList < s.cps.toList)) = isAF s := by
  obtain ⟨c, rfl⟩ := str_one h
  rw [show ("a" : Str).cps.toList = [97] by decide +kernel, show ("f" : Str).cps.toList = [102] by decide +kernel]
  unfold isAF
  rw [show (⟨#[c]⟩ : Str).cps.toList = [c] from rfl]
  dsimp only
  have lt1 : ∀ a b : Nat, ([a] < [b]) ↔ a < b := fun a b => by
    constructor
    · intro h
      cases h with
      | rel h => exact h
      | cons h => cases h
    · exact fun h => .rel h
  rw [show decide ([c] < [97]) = decide (c < 97) from decide_eq_decide.mpr (lt1 c 97), show decide ([102] < [c]) = decide (102 < c) from decide_eq_decide.mpr (lt1 102 c), ← decide_not, ← decide_not, ← Bool.decide_and]
  exact decide_eq_decide.mpr (by omega)
end TL

set_option Elab.async false
set_option linter.all false
set_option maxRecDepth 100000
set_option maxHeartbeats 4000000
/-! TL44: a text within a text; what repr shows. -/
namespace TL
open PySem L2 PyProof.Rows
theorem hasSub_iff {x y : Str} : hasSub x y = true ↔ ∃ a b, x.cps.toList = a ++ y.cps.toList ++ b := by
  unfold hasSub
  rw [PySem.StrLaws.found_iff]
  have len : ∀ z : Str, z.length = z.cps.toList.length := fun z => by rw [Array.length_toList]; rfl
  constructor
  · rintro ⟨i, h1, h2⟩
    rw [PySem.StrLaws.subAt_eq] at h2
    have h2 := eq_of_beq h2
    refine ⟨x.cps.toList.take i, (x.cps.toList.drop i).drop y.length, ?_⟩
    rw [← h2, List.append_assoc, List.take_append_drop, List.take_append_drop]
  · rintro ⟨a, b, h⟩
    refine ⟨a.length, ?_, ?_⟩
    · rw [len x, len y, h]
      simp only [List.length_append]
      omega
    · rw [PySem.StrLaws.subAt_eq, h]
      have e : (a ++ y.cps.toList ++ b).drop a.length = y.cps.toList ++ b := by
        rw [List.append_assoc, List.drop_left]
      rw [e, len y, List.take_left]
      exact beq_self_eq_true _
theorem cps_app (x y : Str) : (x ++ y).cps.toList = x.cps.toList ++ y.cps.toList := by
  show (x.cps ++ y.cps).toList = _
  exact Array.toList_append
theorem fRepr_shown {d : D} {p : PyData} (h1 : ok 200 d = true) (h2 : isSeqD d = true) (h3 : small d = true) (h4 : bulkD d ≤ 2 ^ 20) (hp : toP d = some p) : fRepr d = some (.str p.shown) := by
  obtain ⟨x, h⟩ := fRepr_some h1 h2 h3 h4
  rw [h]
  unfold fRepr at h
  rw [if_pos ⟨h1, h2⟩, hp] at h
  dsimp only at h
  split at h
  · cases h; rfl
  · cases h
theorem join3 (s a b c : Str) : Str.join s [a, b, c] = a ++ s ++ (b ++ s ++ c) := rfl
end TL

set_option Elab.async false
set_option linter.all false
set_option maxRecDepth 100000
set_option maxHeartbeats 0
namespace LW
open PySem PySem.Spec PyProof.Rows L2 TL
def top (i : Nat) : Stmt := PySem.Challenge.pw_sameinworlds_k00_types_looked_at.main.body.getD i (.Pass ⟨0, 0, 0, 0⟩)
abbrev s_0 : Stmt := top 12
abbrev N_0 : List Str := ["thing"]
theorem sc_0 : FnScope N_0 ["thing"] (defScope s_0) := ⟨rfl, rfl, rfl, by decide +kernel, rfl, by decide +kernel, by decide +kernel⟩
abbrev s_1 : Stmt := top 13
abbrev N_1 : List Str := ["thing"]
theorem sc_1 : FnScope N_1 ["thing"] (defScope s_1) := ⟨rfl, rfl, rfl, by decide +kernel, rfl, by decide +kernel, by decide +kernel⟩
abbrev s_2 : Stmt := top 14
abbrev N_2 : List Str := ["thing", "todo", "seen", "part", "path"]
theorem sc_2 : FnScope N_2 ["thing"] (defScope s_2) := ⟨rfl, rfl, rfl, by decide +kernel, rfl, by decide +kernel, by decide +kernel⟩
abbrev s_3 : Stmt := top 15
abbrev N_3 : List Str := ["thing"]
theorem sc_3 : FnScope N_3 ["thing"] (defScope s_3) := ⟨rfl, rfl, rfl, by decide +kernel, rfl, by decide +kernel, by decide +kernel⟩
abbrev s_4 : Stmt := top 16
abbrev N_4 : List Str := ["kind", "wrong"]
theorem sc_4 : FnScope N_4 ["kind"] (defScope s_4) := ⟨rfl, rfl, rfl, by decide +kernel, rfl, by decide +kernel, by decide +kernel⟩
abbrev s_5 : Stmt := top 17
abbrev N_5 : List Str := ["thing", "number", "kind"]
theorem sc_5 : FnScope N_5 ["thing"] (defScope s_5) := ⟨rfl, rfl, rfl, by decide +kernel, rfl, by decide +kernel, by decide +kernel⟩
abbrev s_6 : Stmt := top 18
abbrev N_6 : List Str := ["inputs", "wrong"]
theorem sc_6 : FnScope N_6 ["inputs"] (defScope s_6) := ⟨rfl, rfl, rfl, by decide +kernel, rfl, by decide +kernel, by decide +kernel⟩
abbrev s_7 : Stmt := top 19
abbrev N_7 : List Str := ["kind", "todo", "found", "part"]
theorem sc_7 : FnScope N_7 ["kind"] (defScope s_7) := ⟨rfl, rfl, rfl, by decide +kernel, rfl, by decide +kernel, by decide +kernel⟩
abbrev s_8 : Stmt := top 20
abbrev N_8 : List Str := ["kind"]
theorem sc_8 : FnScope N_8 ["kind"] (defScope s_8) := ⟨rfl, rfl, rfl, by decide +kernel, rfl, by decide +kernel, by decide +kernel⟩
abbrev s_9 : Stmt := top 21
abbrev N_9 : List Str := ["kind", "todo", "known", "part"]
theorem sc_9 : FnScope N_9 ["kind"] (defScope s_9) := ⟨rfl, rfl, rfl, by decide +kernel, rfl, by decide +kernel, by decide +kernel⟩
abbrev s_10 : Stmt := top 22
abbrev N_10 : List Str := ["kind"]
theorem sc_10 : FnScope N_10 ["kind"] (defScope s_10) := ⟨rfl, rfl, rfl, by decide +kernel, rfl, by decide +kernel, by decide +kernel⟩
abbrev s_11 : Stmt := top 23
abbrev N_11 : List Str := ["kind"]
theorem sc_11 : FnScope N_11 ["kind"] (defScope s_11) := ⟨rfl, rfl, rfl, by decide +kernel, rfl, by decide +kernel, by decide +kernel⟩
abbrev s_12 : Stmt := top 24
abbrev N_12 : List Str := ["one", "other"]
theorem sc_12 : FnScope N_12 ["one", "other"] (defScope s_12) := ⟨rfl, rfl, rfl, by decide +kernel, rfl, by decide +kernel, by decide +kernel⟩
abbrev s_13 : Stmt := top 26
abbrev N_13 : List Str := ["cell", "k", "number"]
theorem sc_13 : FnScope N_13 ["cell", "k"] (defScope s_13) := ⟨rfl, rfl, rfl, by decide +kernel, rfl, by decide +kernel, by decide +kernel⟩
abbrev s_14 : Stmt := top 27
abbrev N_14 : List Str := ["cell", "k"]
theorem sc_14 : FnScope N_14 ["cell", "k"] (defScope s_14) := ⟨rfl, rfl, rfl, by decide +kernel, rfl, by decide +kernel, by decide +kernel⟩
abbrev s_15 : Stmt := top 28
abbrev N_15 : List Str := ["state", "below", "found", "j"]
theorem sc_15 : FnScope N_15 ["state", "below"] (defScope s_15) := ⟨rfl, rfl, rfl, by decide +kernel, rfl, by decide +kernel, by decide +kernel⟩
abbrev s_16 : Stmt := top 29
abbrev N_16 : List Str := ["state", "deep", "way", "kind"]
theorem sc_16 : FnScope N_16 ["state", "deep"] (defScope s_16) := ⟨rfl, rfl, rfl, by decide +kernel, rfl, by decide +kernel, by decide +kernel⟩
abbrev s_17 : Stmt := top 30
abbrev N_17 : List Str := ["deed", "e", "found", "error"]
theorem sc_17 : FnScope N_17 ["deed"] (defScope s_17) := ⟨rfl, rfl, rfl, by decide +kernel, rfl, by decide +kernel, by decide +kernel⟩
abbrev s_18 : Stmt := top 31
abbrev N_18 : List Str := ["thing"]
theorem sc_18 : FnScope N_18 ["thing"] (defScope s_18) := ⟨rfl, rfl, rfl, by decide +kernel, rfl, by decide +kernel, by decide +kernel⟩
abbrev s_19 : Stmt := top 32
abbrev N_19 : List Str := ["thing", "rows", "seen", "part", "path"]
theorem sc_19 : FnScope N_19 ["thing"] (defScope s_19) := ⟨rfl, rfl, rfl, by decide +kernel, rfl, by decide +kernel, by decide +kernel⟩
abbrev s_20 : Stmt := top 33
abbrev N_20 : List Str := ["state", "kind", "some"]
theorem sc_20 : FnScope N_20 ["state", "kind"] (defScope s_20) := ⟨rfl, rfl, rfl, by decide +kernel, rfl, by decide +kernel, by decide +kernel⟩
abbrev s_21 : Stmt := top 34
abbrev N_21 : List Str := ["state", "kind", "rows", "turn", "at"]
theorem sc_21 : FnScope N_21 ["state"] (defScope s_21) := ⟨rfl, rfl, rfl, by decide +kernel, rfl, by decide +kernel, by decide +kernel⟩
abbrev s_22 : Stmt := top 35
abbrev N_22 : List Str := ["kind", "place", "one", "other"]
theorem sc_22 : FnScope N_22 ["kind"] (defScope s_22) := ⟨rfl, rfl, rfl, by decide +kernel, rfl, by decide +kernel, by decide +kernel⟩
abbrev s_23 : Stmt := top 36
abbrev N_23 : List Str := ["script", "k", "cell", "state", "kind", "other", "bent", "thing", "odd", "wrong", "turn", "told", "sign"]
theorem sc_23 : FnScope N_23 ["script"] (defScope s_23) := ⟨rfl, rfl, rfl, by decide +kernel, rfl, by decide +kernel, by decide +kernel⟩
abbrev i_0 : Stmt := inClass (top 2) 0
theorem si_0 : FnScope ["self", "place"] ["self", "place"] (defScope i_0) := ⟨rfl, rfl, rfl, by decide +kernel, rfl, by decide +kernel, by decide +kernel⟩
abbrev i_1 : Stmt := inClass (top 3) 0
theorem si_1 : FnScope ["self", "place"] ["self", "place"] (defScope i_1) := ⟨rfl, rfl, rfl, by decide +kernel, rfl, by decide +kernel, by decide +kernel⟩
abbrev i_2 : Stmt := inClass (top 4) 0
theorem si_2 : FnScope ["self", "most"] ["self", "most"] (defScope i_2) := ⟨rfl, rfl, rfl, by decide +kernel, rfl, by decide +kernel, by decide +kernel⟩
abbrev i_3 : Stmt := inClass (top 5) 0
theorem si_3 : FnScope ["self", "value"] ["self", "value"] (defScope i_3) := ⟨rfl, rfl, rfl, by decide +kernel, rfl, by decide +kernel, by decide +kernel⟩
def cf_ : Nat → Str := fun i => (["place", "place", "most", "value"] : List Str).getD i ""
def cm_ : Nat → Str := fun i => (["no such type", "no such inputs", "too many", "nothing so called"] : List Str).getD i ""
def lamq : Str := (envOfC "law" (defScope s_23) 0 0 .none).qual ++ "<lambda>"
abbrev cn (K : PySem.W.Frag) (ca : Nat → Addr) (PL : Addr) : Cn := { K := K, ca := ca, cf := cf_, cm := cm_, fa := fun _ => 0, T := [(PL, lamq)] }
def q_BadInputs (i : Nat) : Option Bool := if i < 4 then some (i == 1) else none
def q_BadType (i : Nat) : Option Bool := if i < 4 then some (i == 0) else none
def q_NoSuch (i : Nat) : Option Bool := if i < 4 then some (i == 3) else none
def q_TooMany (i : Nat) : Option Bool := if i < 4 then some (i == 2) else none
def q_ValueError (i : Nat) : Option Bool := ([some true, some true, some false, some false] : List (Option Bool)).getD i none
def x_SameError_NoSuch_TooMany (i : Nat) : Option Bool := ([some true, some true, some true, some true] : List (Option Bool)).getD i none
def fs_most (i : Nat) : Bool := ([false, false, true, false] : List Bool).getD i false
def fs_place (i : Nat) : Bool := ([true, true, false, false] : List Bool).getD i false
def fs_value (i : Nat) : Bool := ([false, false, false, true] : List Bool).getD i false
def dl_KINDS : List D := [.str "atom", .str "one", .str "both", .str "either", .str "to"]
def kd_KINDS : D := .tup dl_KINDS
/-! what each def does -/
/-- _law_told -/
def m_17 (δ : List D → TR) : SS → OS := (sSeq (sAsg (gT (gC (gN 1) (gC (gN 2) gZ))) (sTup (sCons (sC .non) (sCons (sC .non) sNil))))
  (sSeq (sTry (sSet 2 (sThunk 0 δ)) (⟨x_SameError_NoSuch_TooMany, some 3, (sSet 1 (sVar 3))⟩ :: []))
  (sSeq (sIfS (sB (sOp cIs (sHn 1) (sHv (sC .non)))) (sRet (sFz (sLs (sCons (sVar 2) sNil)))) (fun σ => .nx σ))
  (sSeq (sIfS (sTru (sHv (sIsi (isX q_TooMany) (sHn 1)))) (sRet (sTup (sCons (sC (.str "many")) (sCons (sFld fs_most (sHn 1)) sNil)))) (fun σ => .nx σ))
  (sSeq (sIfS (sTru (sHv (sIsi (isX q_NoSuch) (sHn 1)))) (sRet (sTup (sCons (sC (.str "none")) (sCons (sFld fs_value (sHn 1)) sNil)))) (fun σ => .nx σ))
  (sSeq (sIfS (sAndT (sTru (sHv (sIsi (isX q_BadType) (sHn 1)))) (sTru (sHv (sIsi (isX q_ValueError) (sHn 1))))) (sRet (sTup (sCons (sC (.str "type")) (sCons (sFld fs_place (sHn 1)) sNil)))) (fun σ => .nx σ))
  (sSeq (sIfS (sAndT (sTru (sHv (sIsi (isX q_BadInputs) (sHn 1)))) (sTru (sHv (sIsi (isX q_ValueError) (sHn 1))))) (sRet (sTup (sCons (sC (.str "inputs")) (sCons (sFld fs_place (sHn 1)) sNil)))) (fun σ => .nx σ))
  (sRet (sC (.str "odd"))))))))))
/-- is_atom -/
def m_0 (φ : Nat → FT) : SS → OS := (sRet (sAnd (sIsi (isT .str) (sHn 0)) (sAnd (sOp cEq (sHv (sUn fLen (sHn 0))) (sHv (sC (.int 1)))) (sOp cIn (sHn 0) (sHv (sC (.str "abcdef")))))))
/-- has_type_shape -/
def m_1 (φ : Nat → FT) : SS → OS := (sSeq (sIfS (sOrT (sNotT (sTru (sHv (sIsi (isT .tuple) (sHn 0))))) (sOrT (sB (sOp cEq (sHv (sUn fLen (sHn 0))) (sHv (sC (.int 0))))) (sOrT (sNotT (sTru (sHv (sIsi (isT .str) (sHv (sOp opIx (sHn 0) (sHv (sC (.int 0))))))))) (sB (sOp cNotIn (sHv (sOp opIx (sHn 0) (sHv (sC (.int 0))))) (sHv (sC kd_KINDS))))))) (sRet (sC (.bl false))) (fun σ => .nx σ))
  (sSeq (sIfS (sB (sOp cEq (sHv (sOp opIx (sHn 0) (sHv (sC (.int 0))))) (sHv (sC (.str "one"))))) (sRet (sOp cEq (sHv (sUn fLen (sHn 0))) (sHv (sC (.int 1))))) (fun σ => .nx σ))
  (sSeq (sIfS (sB (sOp cEq (sHv (sOp opIx (sHn 0) (sHv (sC (.int 0))))) (sHv (sC (.str "atom"))))) (sRet (sAnd (sOp cEq (sHv (sUn fLen (sHn 0))) (sHv (sC (.int 2)))) (sCall (φ 0) [] (sACons (sAv (sOp opIx (sHn 0) (sHv (sC (.int 1))))) sANil)))) (fun σ => .nx σ))
  (sRet (sOp cEq (sHv (sUn fLen (sHn 0))) (sHv (sC (.int 3))))))))
def lb_2_0 (φ : Nat → FT) : SS → OS := (sSeq (sAsg (gT (gC (gN 3) (gC (gN 4) gZ))) (sPop 1))
  (sSeq (sIfS (sB (sOp cEq (sHn 2) (sHv (sC (.int 60))))) (sRet (sFz (sLs (sCons (sC (.str "size")) sNil)))) (fun σ => .nx σ))
  (sSeq (sAugV 2 opIAdd (sC (.int 1)))
  (sSeq (sIfS (sOrT (sNotT (sTru (sHv (sCall (φ 1) [] (sACons (sAv (sVar 3)) sANil))))) (sB (sOp cGe (sHv (sUn fLen (sHn 4))) (sHv (sC (.int 12)))))) (sRet (sFz (sLs (sCons (sVar 4) sNil)))) (fun σ => .nx σ))
  (sIfS (sB (sOp cEq (sHv (sUn fLen (sHn 3))) (sHv (sC (.int 3))))) (sSeq (sExpr (sApp 1 (sTup (sCons (sOp opIx (sHn 3) (sHv (sC (.int 2)))) (sCons (sTup (sStar (sVar 4) (sCons (sC (.int 2)) sNil))) sNil)))))
  (sExpr (sApp 1 (sTup (sCons (sOp opIx (sHn 3) (sHv (sC (.int 1)))) (sCons (sTup (sStar (sVar 4) (sCons (sC (.int 1)) sNil))) sNil)))))) (fun σ => .nx σ))))))
def lw_2_0 (φ : Nat → FT) : SS → OS := sWhile (sB (sOp cNe (sHn 1) (sHv (sFz (sLs sNil))))) (lb_2_0 φ) 3000
/-- wrong_type -/
def m_2 (φ : Nat → FT) : SS → OS := (sSeq (sMany [1, 2] (sMF (sLs (sCons (sTup (sCons (sVar 0) (sCons (sTup sNil) sNil))) sNil)) (sMV (sC (.int 0)) sMNil)))
  (sSeq (lw_2_0 φ)
  (sRet (sFz (sLs sNil)))))
/-- is_type -/
def m_3 (φ : Nat → FT) : SS → OS := (sRet (sOp cEq (sHv (sCall (φ 2) [] (sACons (sAv (sVar 0)) sANil))) (sHv (sFz (sLs sNil)))))
/-- need_type -/
def m_4 (φ : Nat → FT) : SS → OS := (sSeq (sSet 1 (sCall (φ 2) [] (sACons (sAv (sVar 0)) sANil)))
  (sIfS (sB (sOp cNe (sHn 1) (sHv (sFz (sLs sNil))))) (sRaise 0 [] (sCons (sOp opIx (sHn 1) (sHv (sC (.int 0)))) sNil)) (fun σ => .nx σ)))
def lb_5_0 (φ : Nat → FT) : SS → OS := (sIfS (sNotT (sTru (sHv (sCall (φ 3) [] (sACons (sAv (sVar 2)) sANil))))) (sRet (sFz (sLs (sCons (sVar 1) sNil)))) (fun σ => .nx σ))
def lf_5_0 (φ : Nat → FT) : SS → OS := sFor (sEnumT (sVar 0)) (gT (gC (gN 1) (gC (gN 2) gZ))) (lb_5_0 φ)
/-- wrong_inputs -/
def m_5 (φ : Nat → FT) : SS → OS := (sSeq (sIfS (sOrT (sNotT (sTru (sHv (sIsi (isT .tuple) (sHn 0))))) (sB (sOp cGt (sHv (sUn fLen (sHn 0))) (sHv (sC (.int 6)))))) (sRet (sFz (sLs (sCons (sC .non) sNil)))) (fun σ => .nx σ))
  (sSeq (lf_5_0 φ)
  (sRet (sFz (sLs sNil)))))
/-- need_inputs -/
def m_6 (φ : Nat → FT) : SS → OS := (sSeq (sSet 1 (sCall (φ 5) [] (sACons (sAv (sVar 0)) sANil)))
  (sIfS (sB (sOp cNe (sHn 1) (sHv (sFz (sLs sNil))))) (sRaise 1 [] (sCons (sOp opIx (sHn 1) (sHv (sC (.int 0)))) sNil)) (fun σ => .nx σ)))
def lb_7_0 (φ : Nat → FT) : SS → OS := (sSeq (sSet 3 (sPop 1))
  (sSeq (sAugV 2 opIAdd (sC (.int 1)))
  (sIfS (sB (sOp cEq (sHv (sUn fLen (sHn 3))) (sHv (sC (.int 3))))) (sExpr (sExt 1 (sSl (sHn 3) (sPart (sC (.int 1))) (fun σ => .ok none σ)))) (fun σ => .nx σ))))
def lw_7_0 (φ : Nat → FT) : SS → OS := sWhile (sB (sOp cNe (sHn 1) (sHv (sFz (sLs sNil))))) (lb_7_0 φ) 3000
/-- own_size -/
def m_7 (φ : Nat → FT) : SS → OS := (sSeq (sMany [1, 2] (sMF (sLs (sCons (sVar 0) sNil)) (sMV (sC (.int 0)) sMNil)))
  (sSeq (lw_7_0 φ)
  (sRet (sVar 2))))
/-- size_of_type -/
def m_8 (φ : Nat → FT) : SS → OS := (sSeq (sExpr (sCall (φ 4) [] (sACons (sAv (sVar 0)) sANil)))
  (sRet (sCall (φ 7) [] (sACons (sAv (sVar 0)) sANil))))
def lb_9_0 (φ : Nat → FT) : SS → OS := (sSeq (sSet 3 (sPop 1))
  (sSeq (sIfS (sAndT (sB (sOp cEq (sHv (sOp opIx (sHn 3) (sHv (sC (.int 0))))) (sHv (sC (.str "atom"))))) (sB (sOp cNotIn (sHv (sOp opIx (sHn 3) (sHv (sC (.int 1))))) (sHn 2)))) (sExpr (sApp 2 (sOp opIx (sHn 3) (sHv (sC (.int 1)))))) (fun σ => .nx σ))
  (sIfS (sB (sOp cEq (sHv (sUn fLen (sHn 3))) (sHv (sC (.int 3))))) (sExpr (sExt 1 (sSl (sHn 3) (sPart (sC (.int 1))) (fun σ => .ok none σ)))) (fun σ => .nx σ))))
def lw_9_0 (φ : Nat → FT) : SS → OS := sWhile (sB (sOp cNe (sHn 1) (sHv (sFz (sLs sNil))))) (lb_9_0 φ) 3000
/-- own_atoms -/
def m_9 (φ : Nat → FT) : SS → OS := (sSeq (sMany [1, 2] (sMF (sLs (sCons (sVar 0) sNil)) (sMF (sLs sNil) sMNil)))
  (sSeq (lw_9_0 φ)
  (sRet (sJoin (sC (.str "")) (sHv (sFz (sSorted (sHn 2))))))))
/-- atoms_of -/
def m_10 (φ : Nat → FT) : SS → OS := (sSeq (sExpr (sCall (φ 4) [] (sACons (sAv (sVar 0)) sANil)))
  (sRet (sCall (φ 9) [] (sACons (sAv (sVar 0)) sANil))))
/-- type_key -/
def m_11 (φ : Nat → FT) : SS → OS := (sSeq (sIfS (sB (sOp cEq (sHv (sUn fLen (sHn 0))) (sHv (sC (.int 3))))) (sRet (sTup (sCons (sCall (φ 7) [] (sACons (sAv (sVar 0)) sANil)) (sCons (sIdx dl_KINDS (sOp opIx (sHn 0) (sHv (sC (.int 0))))) (sCons (sCall (φ 11) [] (sACons (sAv (sOp opIx (sHn 0) (sHv (sC (.int 1))))) sANil)) (sCons (sCall (φ 11) [] (sACons (sAv (sOp opIx (sHn 0) (sHv (sC (.int 2))))) sANil)) sNil)))))) (fun σ => .nx σ))
  (sRet (sTup (sCons (sC (.int 1)) (sCons (sIdx dl_KINDS (sOp opIx (sHn 0) (sHv (sC (.int 0))))) (sCons (sOp opIx (sHn 0) (sHv (sNeg (sHv (sC (.int 1)))))) sNil))))))
/-- is_type_before -/
def m_12 (φ : Nat → FT) : SS → OS := (sSeq (sExpr (sCall (φ 4) [] (sACons (sAv (sVar 0)) sANil)))
  (sSeq (sExpr (sCall (φ 4) [] (sACons (sAv (sVar 1)) sANil)))
  (sRet (sOp cLtT (sHv (sCall (φ 11) [] (sACons (sAv (sVar 0)) sANil))) (sHv (sCall (φ 11) [] (sACons (sAv (sVar 1)) sANil)))))))
/-- _law_mixed -/
def m_13 (φ : Nat → FT) : SS → OS := (sSeq (sSet 2 (sOp opAdd (sHv (sOp opAdd (sHv (sOp opMod (sHn 0) (sHv (sOp opIx (sHv (sFz (sLs (sCons (sC (.int 1000000007)) (sCons (sC (.int 998244353)) (sCons (sC (.int 2147483629)) (sCons (sC (.int 1000000009)) sNil))))))) (sHv (sOp opMod (sHn 1) (sHv (sC (.int 4))))))))) (sHv (sOp opMul (sHv (sC (.int 7919))) (sHn 1))))) (sHv (sC (.int 13)))))
  (sRet (sOp opMod (sHv (sOp opMul (sHv (sOp opMod (sHv (sOp opMul (sHn 2) (sHn 2))) (sHv (sC (.int 2147483647))))) (sHv (sC (.int 48271))))) (sHv (sC (.int 2147483647))))))
/-- _law_draw -/
def m_14 (φ : Nat → FT) : SS → OS := (sRetM (sDict [.inr "left", .inr "cell", .inr "turns"] (sCons (sIf (sB (sOp cGe (sHn 0) (sHv (sOp opPow (sHv (sC (.int 10))) (sHv (sC (.int 18))))))) (sVar 0) (sC (.int 0))) (sCons (sVar 0) (sCons (sOp opMul (sHv (sC (.int 1000))) (sHn 1)) sNil)))))
def lb_15_0 (φ : Nat → FT) : SS → OS := (sSeq (sDput 0 (sC (.str "turns")) (sOp opAdd (sHv (sDget 0 (sC (.str "turns")))) (sHv (sC (.int 1)))))
  (sDput 0 (sC (.str "left")) (sOp opAdd (sHv (sOp opMul (sHv (sDget 0 (sC (.str "left")))) (sHv (sC (.int 2147483647))))) (sHv (sCall (φ 13) [] (sACons (sAv (sDget 0 (sC (.str "cell")))) (sACons (sAv (sDget 0 (sC (.str "turns")))) sANil)))))))
def lf_15_0 (φ : Nat → FT) : SS → OS := sFor (sRng1 (sC (.int 4))) (gN 3) (lb_15_0 φ)
/-- _law_digit -/
def m_15 (φ : Nat → FT) : SS → OS := (sSeq (sIfS (sB (sOp cEq (sHv (sDget 0 (sC (.str "left")))) (sHv (sC (.int 0))))) (lf_15_0 φ) (fun σ => .nx σ))
  (sSeq (sSet 2 (sOp opMod (sHv (sDget 0 (sC (.str "left")))) (sHn 1)))
  (sSeq (sDput 0 (sC (.str "left")) (sOp opFdiv (sHv (sDget 0 (sC (.str "left")))) (sHn 1)))
  (sRet (sVar 2)))))
/-- _law_type -/
def m_16 (φ : Nat → FT) : SS → OS := (sSeq (sSet 2 (sCall (φ 15) [] (sACons (sAs 0) (sACons (sAv (sC (.int 9))) sANil))))
  (sSeq (sIfS (sOrT (sB (sOp cEq (sHn 1) (sHv (sC (.int 0))))) (sB (sOp cLt (sHn 2) (sHv (sC (.int 3)))))) (sRet (sOp opIx (sHv (sFz (sLs (sCons (sTup (sCons (sC (.str "atom")) (sCons (sC (.str "a")) sNil))) (sCons (sTup (sCons (sC (.str "atom")) (sCons (sC (.str "b")) sNil))) (sCons (sTup (sCons (sC (.str "one")) sNil)) (sCons (sTup (sCons (sC (.str "atom")) (sCons (sC (.str "a")) sNil))) sNil))))))) (sHv (sCall (φ 15) [] (sACons (sAs 0) (sACons (sAv (sC (.int 4))) sANil)))))) (fun σ => .nx σ))
  (sSeq (sSet 3 (sOp opIx (sHv (sFz (sLs (sCons (sC (.str "both")) (sCons (sC (.str "both")) (sCons (sC (.str "either")) (sCons (sC (.str "either")) (sCons (sC (.str "to")) (sCons (sC (.str "to")) sNil))))))))) (sHv (sOp opSub (sHn 2) (sHv (sC (.int 3)))))))
  (sRet (sTup (sCons (sVar 3) (sCons (sCall (φ 16) [] (sACons (sAs 0) (sACons (sAv (sOp opSub (sHn 1) (sHv (sC (.int 1))))) sANil))) (sCons (sCall (φ 16) [] (sACons (sAs 0) (sACons (sAv (sOp opSub (sHn 1) (sHv (sC (.int 1))))) sANil))) sNil))))))))
/-- _law_shape -/
def m_18 (φ : Nat → FT) : SS → OS := (sSeq (sIfS (sOrT (sNotT (sTru (sHv (sIsi (isT .tuple) (sHn 0))))) (sOrT (sB (sOp cEq (sHn 0) (sHv (sTup sNil)))) (sNotT (sTru (sHv (sIsi (isT .str) (sHv (sOp opIx (sHn 0) (sHv (sC (.int 0))))))))))) (sRet (sC (.bl false))) (fun σ => .nx σ))
  (sSeq (sIfS (sB (sOp cEq (sHv (sOp opIx (sHn 0) (sHv (sC (.int 0))))) (sHv (sC (.str "one"))))) (sRet (sOp cEq (sHv (sUn fLen (sHn 0))) (sHv (sC (.int 1))))) (fun σ => .nx σ))
  (sSeq (sIfS (sB (sOp cEq (sHv (sOp opIx (sHn 0) (sHv (sC (.int 0))))) (sHv (sC (.str "atom"))))) (sRet (sAnd (sOp cEq (sHv (sUn fLen (sHn 0))) (sHv (sC (.int 2)))) (sAnd (sIsi (isT .str) (sHv (sOp opIx (sHn 0) (sHv (sC (.int 1)))))) (sAnd (sOp cEq (sHv (sUn fLen (sHv (sOp opIx (sHn 0) (sHv (sC (.int 1))))))) (sHv (sC (.int 1)))) (sChain cLe cLe (sHv (sC (.str "a"))) (sHv (sOp opIx (sHn 0) (sHv (sC (.int 1))))) (sHv (sC (.str "f")))))))) (fun σ => .nx σ))
  (sRet (sAnd (sOp cIn (sHv (sOp opIx (sHn 0) (sHv (sC (.int 0))))) (sHv (sTup (sCons (sC (.str "both")) (sCons (sC (.str "either")) (sCons (sC (.str "to")) sNil)))))) (sOp cEq (sHv (sUn fLen (sHn 0))) (sHv (sC (.int 3)))))))))
def lb_19_0 (φ : Nat → FT) : SS → OS := (sSeq (sAsg (gT (gC (gN 3) (gC (gN 4) gZ))) (sOp opIx (sHn 1) (sHv (sC (.int 0)))))
  (sSeq (sIfS (sB (sOp cEq (sHn 2) (sHv (sC (.int 60))))) (sRet (sFz (sLs (sCons (sC (.str "size")) sNil)))) (fun σ => .nx σ))
  (sSeq (sIfS (sOrT (sNotT (sTru (sHv (sCall (φ 18) [] (sACons (sAv (sVar 3)) sANil))))) (sB (sOp cGt (sHv (sUn fLen (sHn 4))) (sHv (sC (.int 11)))))) (sRet (sFz (sLs (sCons (sVar 4) sNil)))) (fun σ => .nx σ))
  (sSeq (sMany [2, 1] (sMV (sOp opAdd (sHn 2) (sHv (sC (.int 1)))) (sMV (sSl (sHn 1) (sPart (sC (.int 1))) (fun σ => .ok none σ)) sMNil)))
  (sIfS (sB (sOp cEq (sHv (sUn fLen (sHn 3))) (sHv (sC (.int 3))))) (sSet 1 (sOp opAdd (sHv (sFz (sLs (sCons (sTup (sCons (sOp opIx (sHn 3) (sHv (sC (.int 1)))) (sCons (sOp opAdd (sHn 4) (sHv (sTup (sCons (sC (.int 1)) sNil)))) sNil))) (sCons (sTup (sCons (sOp opIx (sHn 3) (sHv (sC (.int 2)))) (sCons (sOp opAdd (sHn 4) (sHv (sTup (sCons (sC (.int 2)) sNil)))) sNil))) sNil))))) (sHn 1))) (fun σ => .nx σ))))))
def lw_19_0 (φ : Nat → FT) : SS → OS := sWhile (sB (sOp cNe (sHn 1) (sHv (sFz (sLs sNil))))) (lb_19_0 φ) 3000
/-- _law_wrong -/
def m_19 (φ : Nat → FT) : SS → OS := (sSeq (sMany [1, 2] (sMV (sFz (sLs (sCons (sTup (sCons (sVar 0) (sCons (sTup sNil) sNil))) sNil))) (sMV (sC (.int 0)) sMNil)))
  (sSeq (lw_19_0 φ)
  (sRet (sFz (sLs sNil)))))
/-- _law_bent -/
def m_20 (φ : Nat → FT) : SS → OS := (sSeq (sIfS (sAndT (sB (sOp cEq (sHv (sUn fLen (sHn 1))) (sHv (sC (.int 3))))) (sB (sOp cGt (sHv (sCall (φ 15) [] (sACons (sAs 0) (sACons (sAv (sC (.int 3))) sANil)))) (sHv (sC (.int 0)))))) (sSeq (sIfS (sB (sOp cEq (sHv (sCall (φ 15) [] (sACons (sAs 0) (sACons (sAv (sC (.int 2))) sANil)))) (sHv (sC (.int 0))))) (sRet (sTup (sCons (sOp opIx (sHn 1) (sHv (sC (.int 0)))) (sCons (sCall (φ 20) [] (sACons (sAs 0) (sACons (sAv (sOp opIx (sHn 1) (sHv (sC (.int 1))))) sANil))) (sCons (sOp opIx (sHn 1) (sHv (sC (.int 2)))) sNil))))) (fun σ => .nx σ))
  (sRet (sTup (sCons (sOp opIx (sHn 1) (sHv (sC (.int 0)))) (sCons (sOp opIx (sHn 1) (sHv (sC (.int 1)))) (sCons (sCall (φ 20) [] (sACons (sAs 0) (sACons (sAv (sOp opIx (sHn 1) (sHv (sC (.int 2))))) sANil))) sNil)))))) (fun σ => .nx σ))
  (sSeq (sSet 2 (sFz (sLs (sCons (sC .non) (sCons (sC (.int 5)) (sCons (sC (.str "a")) (sCons (sTup sNil) (sCons (sTup (sCons (sC (.str "one")) (sCons (sTup sNil) sNil))) (sCons (sTup (sCons (sC (.str "atom")) (sCons (sC (.str "g")) sNil))) (sCons (sTup (sCons (sC (.str "atom")) (sCons (sC (.str "ab")) sNil))) (sCons (sTup (sCons (sC (.str "atom")) (sCons (sC (.str "")) sNil))) (sCons (sTup (sCons (sC (.str "atom")) (sCons (sC (.int 5)) sNil))) (sCons (sTup (sCons (sC (.str "atom")) sNil)) (sCons (sTup (sCons (sC (.str "both")) (sCons (sVar 1) sNil))) sNil))))))))))))))
  (sSeq (sSet 2 (sOp opAdd (sHn 2) (sHv (sFz (sLs (sCons (sTup (sCons (sC (.str "to")) (sCons (sVar 1) (sCons (sVar 1) (sCons (sVar 1) sNil))))) (sCons (sTup (sCons (sC (.str "not")) (sCons (sVar 1) sNil))) (sCons (sFz (sLs (sCons (sC (.str "one")) sNil))) (sCons (sTup (sCons (sC (.str "either")) (sCons (sVar 1) (sCons (sC .non) sNil)))) (sCons (sFz (sLstOf (sHn 1))) (sCons (sTup (sCons (sC (.str "one")) sNil)) (sCons (sVar 1) sNil))))))))))))
  (sRet (sOp opIx (sHn 2) (sHv (sCall (φ 15) [] (sACons (sAs 0) (sACons (sAv (sC (.int 18))) sANil)))))))))
def lb_21_0 (φ : Nat → FT) : SS → OS := (sSet 1 (sIf (sB (sOp cEq (sHv (sOp opMod (sHn 3) (sHv (sC (.int 2))))) (sHv (sC (.int 0))))) (sTup (sCons (sC (.str "to")) (sCons (sVar 1) (sCons (sTup (sCons (sC (.str "one")) sNil)) sNil)))) (sTup (sCons (sC (.str "both")) (sCons (sTup (sCons (sC (.str "one")) sNil)) (sCons (sVar 1) sNil))))))
def lf_21_0 (φ : Nat → FT) : SS → OS := sFor (sRng1 (sOp opAdd (sHv (sC (.int 10))) (sHv (sCall (φ 15) [] (sACons (sAs 0) (sACons (sAv (sC (.int 4))) sANil)))))) (gN 3) (lb_21_0 φ)
def lb_21_2 (φ : Nat → FT) : SS → OS := (sOwn 2 (sCat (sHv (sFz (sLc [4] (sRngC (sC (.int 0)) (sOp opSub (sHv (sUn fLen (sHn 2))) (sHv (sC (.int 1)))) (sC (.int 2))) (gN 4) sYes (sTup (sCons (sC (.str "either")) (sCons (sOp opIx (sHn 2) (sHn 4)) (sCons (sOp opIx (sHn 2) (sHv (sOp opAdd (sHn 4) (sHv (sC (.int 1)))))) sNil))))))) (sHv (sSl (sHn 2) (sPart (sOp opSub (sHv (sUn fLen (sHn 2))) (sHv (sOp opMod (sHv (sUn fLen (sHn 2))) (sHv (sC (.int 2))))))) (fun σ => .ok none σ)))))
def lw_21_2 (φ : Nat → FT) : SS → OS := sWhile (sB (sOp cGt (sHv (sUn fLen (sHn 2))) (sHv (sC (.int 1))))) (lb_21_2 φ) 3000
/-- _law_great -/
def m_21 (φ : Nat → FT) : SS → OS := (sSeq (sSet 1 (sTup (sCons (sC (.str "atom")) (sCons (sC (.str "f")) sNil))))
  (sSeq (sIfS (sB (sOp cEq (sHv (sCall (φ 15) [] (sACons (sAs 0) (sACons (sAv (sC (.int 2))) sANil)))) (sHv (sC (.int 0))))) (sSeq (lf_21_0 φ)
  (sRet (sVar 1))) (fun σ => .nx σ))
  (sSeq (sOwn 2 (sRep (sLs (sCons (sVar 1) sNil)) (sOp opAdd (sHv (sC (.int 29))) (sHv (sCall (φ 15) [] (sACons (sAs 0) (sACons (sAv (sC (.int 4))) sANil)))))))
  (sSeq (sIfS (sB (sOp cEq (sHv (sCall (φ 15) [] (sACons (sAs 0) (sACons (sAv (sC (.int 2))) sANil)))) (sHv (sC (.int 0))))) (sLput 2 (sOp opIx (sHv (sFz (sLs (sCons (sC (.int 14)) (sCons (sC (.int 15)) (sCons (sOp opSub (sHv (sC (.int 29))) (sHv (sUn fLen (sHn 2)))) (sCons (sNeg (sHv (sC (.int 1)))) sNil))))))) (sHv (sCall (φ 15) [] (sACons (sAs 0) (sACons (sAv (sC (.int 4))) sANil))))) (sC .non)) (fun σ => .nx σ))
  (sSeq (lw_21_2 φ)
  (sRet (sOp opIx (sHn 2) (sHv (sC (.int 0))))))))))
/-- _law_key -/
def m_22 (φ : Nat → FT) : SS → OS := (sSeq (sSet 1 (sIndexL (sHv (sFz (sLs (sCons (sC (.str "atom")) (sCons (sC (.str "one")) (sCons (sC (.str "both")) (sCons (sC (.str "either")) (sCons (sC (.str "to")) sNil)))))))) (sOp opIx (sHn 0) (sHv (sC (.int 0))))))
  (sSeq (sIfS (sB (sOp cLt (sHv (sUn fLen (sHn 0))) (sHv (sC (.int 3))))) (sRet (sTup (sCons (sC (.int 1)) (sCons (sVar 1) (sCons (sOp opIx (sHn 0) (sHv (sNeg (sHv (sC (.int 1)))))) sNil))))) (fun σ => .nx σ))
  (sSeq (sMany [2, 3] (sMV (sCall (φ 22) [] (sACons (sAv (sOp opIx (sHn 0) (sHv (sC (.int 1))))) sANil)) (sMV (sCall (φ 22) [] (sACons (sAv (sOp opIx (sHn 0) (sHv (sC (.int 2))))) sANil)) sMNil)))
  (sRet (sTup (sCons (sOp opAdd (sHv (sOp opAdd (sHv (sOp opIx (sHn 2) (sHv (sC (.int 0))))) (sHv (sOp opIx (sHn 3) (sHv (sC (.int 0))))))) (sHv (sC (.int 1)))) (sCons (sVar 1) (sCons (sVar 2) (sCons (sVar 3) sNil)))))))))
def lm_23_0 (φ φ2 : Nat → FT) : SS → O D := (sCall (φ2 4) [] (sACons (sAv (sVar 7)) sANil))
def lm_23_1 (φ φ2 : Nat → FT) : SS → O D := (sCall (φ2 10) [] (sACons (sAv (sVar 7)) sANil))
def lm_23_2 (φ φ2 : Nat → FT) : SS → O D := (sCall (φ2 8) [] (sACons (sAv (sVar 7)) sANil))
def lm_23_3 (φ φ2 : Nat → FT) : SS → O D := (sCall (φ2 12) [] (sACons (sAv (sVar 4)) (sACons (sAv (sVar 7)) sANil)))
def lm_23_4 (φ φ2 : Nat → FT) : SS → O D := (sCall (φ2 12) [] (sACons (sAv (sVar 7)) (sACons (sAv (sC .non)) sANil)))
def lm_23_5 (φ φ2 : Nat → FT) : SS → O D := (sCall (φ2 6) [] (sACons (sAv (sTup (sCons (sVar 5) (sCons (sVar 7) sNil)))) sANil))
def lb_23_6 (φ φ2 : Nat → FT) : SS → OS := (sSeq (sSet 9 (sCall (φ 19) [] (sACons (sAv (sVar 7)) sANil)))
  (sSeq (sIfS (sB (sOp cNeS (sHv (sUn fReprA (sHv (sLam N_17.length m_17 (lamRes N_23.length [7] (lm_23_0 φ φ2)) [7])))) (sHv (sUn fReprA (sHv (sIf (sB (sOp cEq (sHn 9) (sHv (sFz (sLs sNil))))) (sFz (sLs (sCons (sC .non) sNil))) (sTup (sCons (sC (.str "type")) (sCons (sOp opIx (sHn 9) (sHv (sC (.int 0)))) sNil))))))))) (sRet (sC (.bl false))) (fun σ => .nx σ))
  (sIfS (sB (sOp cNe (sHn 9) (sHv (sFz (sLs sNil))))) (sSeq (sOwn 11 (sLs (sCons (sLam N_17.length m_17 (lamRes N_23.length [7] (lm_23_2 φ φ2)) [7]) (sCons (sLam N_17.length m_17 (lamRes N_23.length [7] (lm_23_1 φ φ2)) [7]) sNil))))
  (sSeq (sOwn 11 (sCat (sHn 11) (sHv (sFz (sLs (sCons (sLam N_17.length m_17 (lamRes N_23.length [7] (lm_23_4 φ φ2)) [7]) (sCons (sLam N_17.length m_17 (lamRes N_23.length [4, 7] (lm_23_3 φ φ2)) [4, 7]) sNil)))))))
  (sSeq (sExpr (sApp 11 (sLam N_17.length m_17 (lamRes N_23.length [5, 7] (lm_23_5 φ φ2)) [5, 7])))
  (sIfS (sB (sOp cNeS (sHv (sUn fReprA (sHn 11))) (sHv (sUn fReprA (sHv (sOp opAdd (sHv (sFz (sRep (sLs (sCons (sTup (sCons (sC (.str "type")) (sCons (sOp opIx (sHn 9) (sHv (sC (.int 0)))) sNil))) sNil)) (sC (.int 4))))) (sHv (sFz (sLs (sCons (sTup (sCons (sC (.str "inputs")) (sCons (sC (.int 1)) sNil))) sNil)))))))))) (sRet (sC (.bl false))) (fun σ => .nx σ))))) (fun σ => .nx σ))))
def lf_23_6 (φ φ2 : Nat → FT) : SS → OS := sFor (sItL (sOp opAdd (sHv (sOp opAdd (sHv (sFz (sLs (sCons (sVar 4) sNil)))) (sHv (sFz (sLc [10] (sRng1 (sC (.int 4))) (gN 10) sYes (sCall (φ 21) [] (sACons (sAs 3) sANil))))))) (sHn 6))) (gN 7) (lb_23_6 φ φ2)
def lm_23_8 (φ φ2 : Nat → FT) : SS → O D := (sCall (φ2 6) [] (sACons (sAv (sVar 8)) sANil))
def lb_23_9 (φ φ2 : Nat → FT) : SS → OS := (sSeq (sOwnM 3 (sCallM (φ 14) [] (sACons (sAv (sVar 2)) (sACons (sAv (sVar 1)) sANil))))
  (sSeq (sAsg (gT (gC (gN 4) (gC (gN 5) gZ))) (sTup (sCons (sCall (φ 16) [] (sACons (sAs 3) (sACons (sAv (sC (.int 4))) sANil))) (sCons (sCall (φ 16) [] (sACons (sAs 3) (sACons (sAv (sC (.int 2))) sANil))) sNil))))
  (sSeq (sOwn 6 (sLc [10] (sRng1 (sC (.int 5))) (gN 10) sYes (sCall (φ 20) [] (sACons (sAs 3) (sACons (sAv (sVar 4)) sANil)))))
  (sSeq (sOwn 6 (sCat (sHn 6) (sHv (sFz (sLs (sCons (sTup (sCons (sC (.str "both")) (sCons (sOp opIx (sHn 6) (sHv (sC (.int 0)))) (sCons (sOp opIx (sHn 6) (sHv (sC (.int 1)))) sNil)))) (sCons (sTup (sCons (sC (.str "to")) (sCons (sTup (sCons (sC (.str "either")) (sCons (sVar 5) (sCons (sOp opIx (sHn 6) (sHv (sC (.int 2)))) sNil)))) (sCons (sOp opIx (sHn 6) (sHv (sC (.int 3)))) sNil)))) (sCons (sTup (sCons (sC (.str "to")) (sCons (sVar 4) (sCons (sTup (sCons (sC (.str "one")) (sCons (sOp opIx (sHn 6) (sHv (sC (.int 4)))) sNil))) sNil)))) sNil))))))))
  (sSeq (lf_23_6 φ φ2)
  (sSeq (sIfS (sOrT (sB (sOp cNe (sHv (sCall (φ 8) [] (sACons (sAv (sVar 4)) sANil))) (sHv (sOp opIx (sHv (sCall (φ 22) [] (sACons (sAv (sVar 4)) sANil))) (sHv (sC (.int 0))))))) (sB (sOp cNeS (sHv (sUn fReprA (sHv (sCall (φ 12) [] (sACons (sAv (sVar 4)) (sACons (sAv (sVar 5)) sANil)))))) (sHv (sUn fReprA (sHv (sOp cLtT (sHv (sCall (φ 22) [] (sACons (sAv (sVar 4)) sANil))) (sHv (sCall (φ 22) [] (sACons (sAv (sVar 5)) sANil)))))))))) (sRet (sC (.bl false))) (fun σ => .nx σ))
  (sSeq (sIfS (sB (sOp cNe (sHv (sCall (φ 10) [] (sACons (sAv (sVar 4)) sANil))) (sHv (sJoin (sC (.str "")) (sHv (sFz (sLc [12] (sItS (sC (.str "ab"))) (gN 12) (sB (sOp cIn (sHv (sUn fReprA (sHv (sTup (sCons (sC (.str "atom")) (sCons (sVar 12) sNil)))))) (sHv (sUn fReprA (sHn 4))))) (sVar 12)))))))) (sRet (sC (.bl false))) (fun σ => .nx σ))
  (sSeq (sSet 8 (sOp opIx (sHv (sFz (sLs (sCons (sC .non) (sCons (sFz (sLs (sCons (sVar 4) sNil))) (sCons (sC (.str "one")) (sCons (sOp opMul (sHv (sTup (sCons (sVar 4) sNil))) (sHv (sC (.int 7)))) (sCons (sC (.int 5)) sNil)))))))) (sHn 1)))
  (sIfS (sOrT (sB (sOp cNeS (sHv (sUn fReprA (sHv (sLam N_17.length m_17 (lamRes N_23.length [8] (lm_23_8 φ φ2)) [8])))) (sHv (sUn fReprA (sHv (sTup (sCons (sC (.str "inputs")) (sCons (sC .non) sNil)))))))) (sB (sOp cIsNot (sHv (sCall (φ 6) [] (sACons (sAv (sOp opMul (sHv (sTup (sCons (sVar 4) sNil))) (sHv (sC (.int 6))))) sANil))) (sHv (sC .non))))) (sRet (sC (.bl false))) (fun σ => .nx σ))))))))))
def lf_23_9 (φ φ2 : Nat → FT) : SS → OS := sFor (sEnum (sOp opAdd (sHv (sSl (sHn 0) (fun σ => .ok none σ) (sPart (sC (.int 4))))) (sHv (sFz (sLs (sCons (sUn fSum (sHn 0)) sNil)))))) (gT (gC (gN 1) (gC (gN 2) gZ))) (lb_23_9 φ φ2)
/-- law -/
def m_23 (φ φ2 : Nat → FT) : SS → OS := (sSeq (lf_23_9 φ φ2)
  (sRet (sOp cIs (sHv (sCall (φ 6) [] (sACons (sAv (sTup sNil)) sANil))) (sHv (sC .non)))))
def Φ : Nat → Nat → FT
  | 0 => fun _ _ => .bad
  | k + 1 => fun i => match i with
    | 0 => runB 1 1 (m_0 (Φ k))
    | 1 => runB 1 1 (m_1 (Φ k))
    | 2 => runB 5 1 (m_2 (Φ k))
    | 3 => runB 1 1 (m_3 (Φ k))
    | 4 => runB 2 1 (m_4 (Φ k))
    | 5 => runB 3 1 (m_5 (Φ k))
    | 6 => runB 2 1 (m_6 (Φ k))
    | 7 => runB 4 1 (m_7 (Φ k))
    | 8 => runB 1 1 (m_8 (Φ k))
    | 9 => runB 4 1 (m_9 (Φ k))
    | 10 => runB 1 1 (m_10 (Φ k))
    | 11 => runB 1 1 (m_11 (Φ k))
    | 12 => runB 2 2 (m_12 (Φ k))
    | 13 => runB 3 2 (m_13 (Φ k))
    | 14 => runB 2 2 (m_14 (Φ k))
    | 15 => runB 4 2 (m_15 (Φ k))
    | 16 => runB 4 2 (m_16 (Φ k))
    | 18 => runB 1 1 (m_18 (Φ k))
    | 19 => runB 5 1 (m_19 (Φ k))
    | 20 => runB 3 2 (m_20 (Φ k))
    | 21 => runB 5 1 (m_21 (Φ k))
    | 22 => runB 4 1 (m_22 (Φ k))
    | _ => fun _ => .bad
def psT : Nat → List Str
  | 0 => ["thing"]
  | 1 => ["thing"]
  | 2 => ["thing"]
  | 3 => ["thing"]
  | 4 => ["kind"]
  | 5 => ["thing"]
  | 6 => ["inputs"]
  | 7 => ["kind"]
  | 8 => ["kind"]
  | 9 => ["kind"]
  | 10 => ["kind"]
  | 11 => ["kind"]
  | 12 => ["one", "other"]
  | 13 => ["cell", "k"]
  | 14 => ["cell", "k"]
  | 15 => ["state", "below"]
  | 16 => ["state", "deep"]
  | 17 => ["deed"]
  | 18 => ["thing"]
  | 19 => ["thing"]
  | 20 => ["state", "kind"]
  | 21 => ["state"]
  | 22 => ["kind"]
  | 23 => ["script"]
  | _ => []
/-! what the top has written -/
structure Txt (P : Program) (w : World) (K : PySem.W.Frag) (mg : Str → Option Value) (base : Heap) (fa : Nat → Addr) (fd : Nat → FuncData) (ca ci : Nat → Addr) (cd : Nat → FuncData) (ka : Nat → Addr) (kt : Nat → Nat) (aS PL CLw : Addr) : Prop where
  g_0 : mg "is_atom" = some (.ref (fa 0))
  kp_0 : PySem.W.keepIn K (.ref (fa 0)) = true
  b_0 : Binds K (fd 0) ["thing"] []
  g_1 : mg "has_type_shape" = some (.ref (fa 1))
  kp_1 : PySem.W.keepIn K (.ref (fa 1)) = true
  b_1 : Binds K (fd 1) ["thing"] []
  g_2 : mg "wrong_type" = some (.ref (fa 2))
  kp_2 : PySem.W.keepIn K (.ref (fa 2)) = true
  b_2 : Binds K (fd 2) ["thing"] []
  g_3 : mg "is_type" = some (.ref (fa 3))
  kp_3 : PySem.W.keepIn K (.ref (fa 3)) = true
  b_3 : Binds K (fd 3) ["thing"] []
  g_4 : mg "need_type" = some (.ref (fa 4))
  kp_4 : PySem.W.keepIn K (.ref (fa 4)) = true
  b_4 : Binds K (fd 4) ["kind"] []
  g_5 : mg "wrong_inputs" = some (.ref (fa 5))
  kp_5 : PySem.W.keepIn K (.ref (fa 5)) = true
  b_5 : Binds K (fd 5) ["thing"] []
  g_6 : mg "need_inputs" = some (.ref (fa 6))
  kp_6 : PySem.W.keepIn K (.ref (fa 6)) = true
  b_6 : Binds K (fd 6) ["inputs"] []
  g_7 : mg "own_size" = some (.ref (fa 7))
  kp_7 : PySem.W.keepIn K (.ref (fa 7)) = true
  b_7 : Binds K (fd 7) ["kind"] []
  g_8 : mg "size_of_type" = some (.ref (fa 8))
  kp_8 : PySem.W.keepIn K (.ref (fa 8)) = true
  b_8 : Binds K (fd 8) ["kind"] []
  g_9 : mg "own_atoms" = some (.ref (fa 9))
  kp_9 : PySem.W.keepIn K (.ref (fa 9)) = true
  b_9 : Binds K (fd 9) ["kind"] []
  g_10 : mg "atoms_of" = some (.ref (fa 10))
  kp_10 : PySem.W.keepIn K (.ref (fa 10)) = true
  b_10 : Binds K (fd 10) ["kind"] []
  g_11 : mg "type_key" = some (.ref (fa 11))
  kp_11 : PySem.W.keepIn K (.ref (fa 11)) = true
  b_11 : Binds K (fd 11) ["kind"] []
  g_12 : mg "is_type_before" = some (.ref (fa 12))
  kp_12 : PySem.W.keepIn K (.ref (fa 12)) = true
  b_12 : Binds K (fd 12) ["one", "other"] []
  g_13 : mg "_law_mixed" = some (.ref (fa 13))
  kp_13 : PySem.W.keepIn K (.ref (fa 13)) = true
  b_13 : Binds K (fd 13) ["cell", "k"] []
  g_14 : mg "_law_draw" = some (.ref (fa 14))
  kp_14 : PySem.W.keepIn K (.ref (fa 14)) = true
  b_14 : Binds K (fd 14) ["cell", "k"] []
  g_15 : mg "_law_digit" = some (.ref (fa 15))
  kp_15 : PySem.W.keepIn K (.ref (fa 15)) = true
  b_15 : Binds K (fd 15) ["state", "below"] []
  g_16 : mg "_law_type" = some (.ref (fa 16))
  kp_16 : PySem.W.keepIn K (.ref (fa 16)) = true
  b_16 : Binds K (fd 16) ["state", "deep"] []
  g_17 : mg "_law_told" = some (.ref (fa 17))
  kp_17 : PySem.W.keepIn K (.ref (fa 17)) = true
  ho_17 : HoK K "_law_told" "deed" s_17 (fa 17)
  g_18 : mg "_law_shape" = some (.ref (fa 18))
  kp_18 : PySem.W.keepIn K (.ref (fa 18)) = true
  b_18 : Binds K (fd 18) ["thing"] []
  g_19 : mg "_law_wrong" = some (.ref (fa 19))
  kp_19 : PySem.W.keepIn K (.ref (fa 19)) = true
  b_19 : Binds K (fd 19) ["thing"] []
  g_20 : mg "_law_bent" = some (.ref (fa 20))
  kp_20 : PySem.W.keepIn K (.ref (fa 20)) = true
  b_20 : Binds K (fd 20) ["state", "kind"] []
  g_21 : mg "_law_great" = some (.ref (fa 21))
  kp_21 : PySem.W.keepIn K (.ref (fa 21)) = true
  b_21 : Binds K (fd 21) ["state"] []
  g_22 : mg "_law_key" = some (.ref (fa 22))
  kp_22 : PySem.W.keepIn K (.ref (fa 22)) = true
  b_22 : Binds K (fd 22) ["kind"] []
  n_LookupError : mg "LookupError" = none
  n_OverflowError : mg "OverflowError" = none
  n_ValueError : mg "ValueError" = none
  n_enumerate : mg "enumerate" = none
  n_isinstance : mg "isinstance" = none
  n_len : mg "len" = none
  n_list : mg "list" = none
  n_range : mg "range" = none
  n_repr : mg "repr" = none
  n_sorted : mg "sorted" = none
  n_str : mg "str" = none
  n_sum : mg "sum" = none
  n_tuple : mg "tuple" = none
  gS : mg "SameError" = some (.ref aS)
  gc_0 : mg "BadType" = some (.ref (ca 0))
  c_0 : CAll P w K mg base (ca 0) (ci 0) "place" "no such type" "place" 0 true (cd 0)
  r_0 : CRs P w K mg base (ca 0) (ci 0) "place" "place" (cd 0)
  gc_1 : mg "BadInputs" = some (.ref (ca 1))
  c_1 : CAll P w K mg base (ca 1) (ci 1) "place" "no such inputs" "place" 0 true (cd 1)
  r_1 : CRs P w K mg base (ca 1) (ci 1) "place" "place" (cd 1)
  gc_2 : mg "TooMany" = some (.ref (ca 2))
  c_2 : CAll P w K mg base (ca 2) (ci 2) "most" "too many" "most" 1 false (cd 2)
  r_2 : CRs P w K mg base (ca 2) (ci 2) "most" "most" (cd 2)
  gc_3 : mg "NoSuch" = some (.ref (ca 3))
  c_3 : CAll P w K mg base (ca 3) (ci 3) "value" "nothing so called" "value" 2 true (cd 3)
  r_3 : CRs P w K mg base (ca 3) (ci 3) "value" "value" (cd 3)
  q_BadInputs : ∀ i b, q_BadInputs i = some b → EkC K (ca i) ∧ PySem.W.kitOne K (.ref (ca i)) (.ref (ca 1)) = some b
  q_BadType : ∀ i b, q_BadType i = some b → EkC K (ca i) ∧ PySem.W.kitOne K (.ref (ca i)) (.ref (ca 0)) = some b
  q_NoSuch : ∀ i b, q_NoSuch i = some b → EkC K (ca i) ∧ PySem.W.kitOne K (.ref (ca i)) (.ref (ca 3)) = some b
  q_TooMany : ∀ i b, q_TooMany i = some b → EkC K (ca i) ∧ PySem.W.kitOne K (.ref (ca i)) (.ref (ca 2)) = some b
  q_ValueError : ∀ i b, q_ValueError i = some b → EkC K (ca i) ∧ PySem.W.kitOne K (.ref (ca i)) (.type "ValueError") = some b
  x_SameError_NoSuch_TooMany : ∀ i b, x_SameError_NoSuch_TooMany i = some b → PySem.W.exmAny K (.ref (ca i)) [.ref aS, .ref (ca 3), .ref (ca 2)] = some b
  fq_most : ∀ c, fs_most c = true → cf_ c = "most" ∧ XfC K (ca c) ∧ PySem.W.findIn K (.ref (ca c)) "most" = some none
  fq_place : ∀ c, fs_place c = true → cf_ c = "place" ∧ XfC K (ca c) ∧ PySem.W.findIn K (.ref (ca c)) "place" = some none
  fq_value : ∀ c, fs_value c = true → cf_ c = "value" ∧ XfC K (ca c) ∧ PySem.W.findIn K (.ref (ca c)) "value" = some none
  k_ATOMS : mg "ATOMS" = some (.str "abcdef" (kt 0))
  k_KINDS : mg "KINDS" = some (.ref (ka 1))
  kt_KINDS : ∃ o, K.lookup (ka 1) = some o ∧ o.cls = .type "tuple" ∧ o.dict = none
  kr_KINDS : ∀ {C : Cn}, C.K = K → ∀ H : Hp, Rp C H kd_KINDS (.ref (ka 1))
  k_MOST_SIZE : mg "MOST_SIZE" = some (.int 60 (kt 2))
  k_MOST_DEEP : mg "MOST_DEEP" = some (.int 12 (kt 3))
  k_MOST_INPUTS : mg "MOST_INPUTS" = some (.int 6 (kt 4))
  TB : LamX.TabB base mg CLw PL
section
variable {P : Program} {w : World} {K : PySem.W.Frag} {mg : Str → Option Value} {base : Heap} {fa : Nat → Addr} {fd : Nat → FuncData} {ca ci : Nat → Addr} {cd : Nat → FuncData} {ka : Nat → Addr} {kt : Nat → Nat} {aS PL CLw : Addr} {k k2 : Nat} {φ φ2 : Nat → FT}
theorem d_17 (T : Txt P w K mg base fa fd ca ci cd ka kt aS PL CLw) {f2 c2 g : Addr} {q : Str} {lv : List V} {δ : List D → TR} {cdv : Value} {A : Around} {outer : List Env} {s : Shared} {H : Hp} {E : XK} (hr : TRoom k (A.deeper (envOfC "_law_told" (defScope s_17) s.heap.objs.size g cdv)))
    (th : ∀ (pn : List (Addr × Obj)) (p1 p2 : Pos), ME ((cxOf (CX P w) P w K mg base N_17 "_law_told" (defScope s_17) g cdv A outer s H E).tr pn (cxOf (CX P w) P w K mg base N_17 "_law_told" (defScope s_17) g cdv A outer s H E).xe) ((cn K ca PL).lam f2 c2 q lv) (.Call (.Name "deed" p1) [] [] p2) (sThunk 0 δ)) :
    MSs (cxOf (CX P w) P w K mg base N_17 "_law_told" (defScope s_17) g cdv A outer s H E) ((cn K ca PL).lam f2 c2 q lv) (defBody s_17) (m_17 δ) := by
  have sc := sc_17
  exact (mss_cons (ms_asg (me_tup (ma_cons me_non (ma_cons me_non ma_nil))) (mg_tup rfl rfl (mgs_cons (mg_name 1 sc.nd rfl (by first | exact Or.inl rfl | exact Or.inr rfl)) (mgs_cons (mg_name 2 sc.nd rfl (by first | exact Or.inl rfl | exact Or.inr rfl)) mgs_nil)) (gC_len (gC_len (fun _ _ _ h => gZ_len h)))))
  (mss_cons (ms_tryT rfl rfl rfl sc.nd rfl (fun pn => (mss_one (ms_set 2 sc.nd rfl (by first | exact Or.inl rfl | exact Or.inr rfl) (th pn _ _)))) (.as_ (.three ⟨rfl, by decide, .inl T.gS⟩ ⟨rfl, by decide, .inl T.gc_3⟩ ⟨rfl, by decide, .inl T.gc_2⟩ T.x_SameError_NoSuch_TooMany) rfl rfl (fun _ _ => (mss_one (ms_set 1 sc.nd rfl (by first | exact Or.inl rfl | exact Or.inr rfl) (me_var 3)))) .nil))
  (mss_cons (ms_if (mt_cmp (fun _ => op_isD) (mh_name 1) (mh_val me_non) (by rfl)) (mss_one (ms_ret (me_fz (mf_ls (ma_cons (me_var 2) ma_nil))))) mss_nil)
  (mss_cons (ms_if (mt_tru rfl (mh_val (me_isO rfl T.q_TooMany rfl T.n_isinstance rfl T.gc_2 (mh_name 1)))) (mss_one (ms_ret (me_tup (ma_cons me_str (ma_cons (me_fld rfl T.fq_most (mh_name 1)) ma_nil))))) mss_nil)
  (mss_cons (ms_if (mt_tru rfl (mh_val (me_isO rfl T.q_NoSuch rfl T.n_isinstance rfl T.gc_3 (mh_name 1)))) (mss_one (ms_ret (me_tup (ma_cons me_str (ma_cons (me_fld rfl T.fq_value (mh_name 1)) ma_nil))))) mss_nil)
  (mss_cons (ms_if (MW.mt (mw_and (mt_tru rfl (mh_val (me_isO rfl T.q_BadType rfl T.n_isinstance rfl T.gc_0 (mh_name 1)))) (mw_and1 (mt_tru rfl (mh_val (me_isB rfl T.q_ValueError rfl T.n_isinstance rfl T.n_ValueError rfl (mh_name 1))))))) (mss_one (ms_ret (me_tup (ma_cons me_str (ma_cons (me_fld rfl T.fq_place (mh_name 1)) ma_nil))))) mss_nil)
  (mss_cons (ms_if (MW.mt (mw_and (mt_tru rfl (mh_val (me_isO rfl T.q_BadInputs rfl T.n_isinstance rfl T.gc_1 (mh_name 1)))) (mw_and1 (mt_tru rfl (mh_val (me_isB rfl T.q_ValueError rfl T.n_isinstance rfl T.n_ValueError rfl (mh_name 1))))))) (mss_one (ms_ret (me_tup (ma_cons me_str (ma_cons (me_fld rfl T.fq_place (mh_name 1)) ma_nil))))) mss_nil)
  (mss_one (ms_ret me_str)))))))))
theorem d_0 (T : Txt P w K mg base fa fd ca ci cd ka kt aS PL CLw) (ih : ∀ j, j < 24 → FnT P w K mg base (cn K ca PL) k (fa j) (fd j) (psT j) (φ j)) {f : Addr} {cdv : Value} {A : Around} {outer : List Env} {s : Shared} {H : Hp} {E : XK} (hr : TRoom k (A.deeper (envOfC "is_atom" (defScope s_0) s.heap.objs.size f cdv))) :
    MSs (cxOf (CX P w) P w K mg base N_0 "is_atom" (defScope s_0) f cdv A outer s H E) (cn K ca PL) (defBody s_0) (m_0 φ) := by
  have sc := sc_0
  exact (mss_one (ms_ret (me_and rfl (me_isT .str rfl rfl T.n_isinstance rfl T.n_str rfl (mh_name 0)) (me_and rfl (me_cmp (fun _ => op_eqT rfl hr) (mh_val (me_callB (fun _ => cr_lenD rfl) rfl T.n_len rfl (mh_name 0))) (mh_val me_int) (by rfl)) (me_one (me_cmp (fun _ => op_inT rfl hr) (mh_name 0) (mh_val (me_glob (v := .str "abcdef") rfl T.k_ATOMS ⟨_, rfl⟩ (fun _ => .s))) (by rfl)))))))
theorem d_1 (T : Txt P w K mg base fa fd ca ci cd ka kt aS PL CLw) (ih : ∀ j, j < 24 → FnT P w K mg base (cn K ca PL) k (fa j) (fd j) (psT j) (φ j)) {f : Addr} {cdv : Value} {A : Around} {outer : List Env} {s : Shared} {H : Hp} {E : XK} (hr : TRoom k (A.deeper (envOfC "has_type_shape" (defScope s_1) s.heap.objs.size f cdv))) :
    MSs (cxOf (CX P w) P w K mg base N_1 "has_type_shape" (defScope s_1) f cdv A outer s H E) (cn K ca PL) (defBody s_1) (m_1 φ) := by
  have sc := sc_1
  exact (mss_cons (ms_if (MW.mt (mw_or (mt_not (mt_tru rfl (mh_val (me_isT .tuple rfl rfl T.n_isinstance rfl T.n_tuple rfl (mh_name 0))))) (mw_or (mt_cmp (fun _ => op_eqT rfl hr) (mh_val (me_callB (fun _ => cr_lenD rfl) rfl T.n_len rfl (mh_name 0))) (mh_val me_int) (by rfl)) (mw_or (mt_not (mt_tru rfl (mh_val (me_isT .str rfl rfl T.n_isinstance rfl T.n_str rfl (mh_val (me_ix rfl (mh_name 0) (mh_val me_int) (fun _ _ => rfl))))))) (mw_or1 (mt_cmp (fun _ => op_notInT rfl hr) (mh_val (me_ix rfl (mh_name 0) (mh_val me_int) (fun _ _ => rfl))) (mh_val (me_glob (v := .ref _) rfl T.k_KINDS rfl (T.kr_KINDS rfl))) (by rfl))))))) (mss_one (ms_ret me_bl)) mss_nil)
  (mss_cons (ms_if (mt_cmp (fun _ => op_eqT rfl hr) (mh_val (me_ix rfl (mh_name 0) (mh_val me_int) (fun _ _ => rfl))) (mh_val me_str) (by rfl)) (mss_one (ms_ret (me_cmp (fun _ => op_eqT rfl hr) (mh_val (me_callB (fun _ => cr_lenD rfl) rfl T.n_len rfl (mh_name 0))) (mh_val me_int) (by rfl)))) mss_nil)
  (mss_cons (ms_if (mt_cmp (fun _ => op_eqT rfl hr) (mh_val (me_ix rfl (mh_name 0) (mh_val me_int) (fun _ _ => rfl))) (mh_val me_str) (by rfl)) (mss_one (ms_ret (me_and rfl (me_cmp (fun _ => op_eqT rfl hr) (mh_val (me_callB (fun _ => cr_lenD rfl) rfl T.n_len rfl (mh_name 0))) (mh_val me_int) (by rfl)) (me_one (me_call (ih 0 (by decide)) hr rfl T.g_0 T.kp_0 T.b_0 .nil (fun _ => .nil) (mv_cons (m1_val (me_ix rfl (mh_name 0) (mh_val me_int) (fun _ _ => rfl))) mv_nil)))))) mss_nil)
  (mss_one (ms_ret (me_cmp (fun _ => op_eqT rfl hr) (mh_val (me_callB (fun _ => cr_lenD rfl) rfl T.n_len rfl (mh_name 0))) (mh_val me_int) (by rfl)))))))
theorem d_2 (T : Txt P w K mg base fa fd ca ci cd ka kt aS PL CLw) (ih : ∀ j, j < 24 → FnT P w K mg base (cn K ca PL) k (fa j) (fd j) (psT j) (φ j)) {f : Addr} {cdv : Value} {A : Around} {outer : List Env} {s : Shared} {H : Hp} {E : XK} (hr : TRoom k (A.deeper (envOfC "wrong_type" (defScope s_2) s.heap.objs.size f cdv))) :
    MSs (cxOf (CX P w) P w K mg base N_2 "wrong_type" (defScope s_2) f cdv A outer s H E) (cn K ca PL) (defBody s_2) (m_2 φ) := by
  have sc := sc_2
  exact (mss_cons (ms_par rfl sc.nd rfl rfl (by decide) rfl rfl (mm_new (mf_ls (ma_cons (me_tup (ma_cons (me_var 0) (ma_cons (me_tup ma_nil) ma_nil))) ma_nil)) (mm_val me_int mm_nil)) rfl)
  (mss_cons (ms_while 3000 (mt_cmp (fun _ => op_neT rfl hr) (mh_name 1) (mh_val (me_fz (mf_ls ma_nil))) (by rfl)) (mss_cons (ms_asg (me_pop 1 rfl (by first | exact Or.inl rfl | exact Or.inr (Or.inl rfl) | exact Or.inr (Or.inr rfl))) (mg_tup rfl rfl (mgs_cons (mg_name 3 sc.nd rfl (by first | exact Or.inl rfl | exact Or.inr rfl)) (mgs_cons (mg_name 4 sc.nd rfl (by first | exact Or.inl rfl | exact Or.inr rfl)) mgs_nil)) (gC_len (gC_len (fun _ _ _ h => gZ_len h)))))
  (mss_cons (ms_if (mt_cmp (fun _ => op_eqT rfl hr) (mh_name 2) (mh_val (me_glob (v := .int 60) rfl T.k_MOST_SIZE ⟨_, rfl⟩ (fun _ => .i))) (by rfl)) (mss_one (ms_ret (me_fz (mf_ls (ma_cons me_str ma_nil))))) mss_nil)
  (mss_cons (ms_aug 2 sc.nd rfl (by first | exact Or.inl rfl | exact Or.inr rfl) (fun _ => ip_addD) me_int)
  (mss_cons (ms_if (MW.mt (mw_or (mt_not (mt_tru rfl (mh_val (me_call (ih 1 (by decide)) hr rfl T.g_1 T.kp_1 T.b_1 .nil (fun _ => .nil) (mv_cons (m1_val (me_var 3)) mv_nil))))) (mw_or1 (mt_cmp (fun _ => op_geD) (mh_val (me_callB (fun _ => cr_lenD rfl) rfl T.n_len rfl (mh_name 4))) (mh_val (me_glob (v := .int 12) rfl T.k_MOST_DEEP ⟨_, rfl⟩ (fun _ => .i))) (by rfl))))) (mss_one (ms_ret (me_fz (mf_ls (ma_cons (me_var 4) ma_nil))))) mss_nil)
  (mss_one (ms_if (mt_cmp (fun _ => op_eqT rfl hr) (mh_val (me_callB (fun _ => cr_lenD rfl) rfl T.n_len rfl (mh_name 3))) (mh_val me_int) (by rfl)) (mss_cons (ms_expr (me_append 1 rfl (by first | exact Or.inl rfl | exact Or.inr (Or.inl rfl) | exact Or.inr (Or.inr rfl)) (me_tup (ma_cons (me_ix rfl (mh_name 3) (mh_val me_int) (fun _ _ => rfl)) (ma_cons (me_tup (ma_star rfl (me_var 4) (ma_cons me_int ma_nil))) ma_nil)))))
  (mss_one (ms_expr (me_append 1 rfl (by first | exact Or.inl rfl | exact Or.inr (Or.inl rfl) | exact Or.inr (Or.inr rfl)) (me_tup (ma_cons (me_ix rfl (mh_name 3) (mh_val me_int) (fun _ _ => rfl)) (ma_cons (me_tup (ma_star rfl (me_var 4) (ma_cons me_int ma_nil))) ma_nil))))))) mss_nil)))))))
  (mss_one (ms_ret (me_fz (mf_ls ma_nil))))))
theorem d_3 (T : Txt P w K mg base fa fd ca ci cd ka kt aS PL CLw) (ih : ∀ j, j < 24 → FnT P w K mg base (cn K ca PL) k (fa j) (fd j) (psT j) (φ j)) {f : Addr} {cdv : Value} {A : Around} {outer : List Env} {s : Shared} {H : Hp} {E : XK} (hr : TRoom k (A.deeper (envOfC "is_type" (defScope s_3) s.heap.objs.size f cdv))) :
    MSs (cxOf (CX P w) P w K mg base N_3 "is_type" (defScope s_3) f cdv A outer s H E) (cn K ca PL) (defBody s_3) (m_3 φ) := by
  have sc := sc_3
  exact (mss_one (ms_ret (me_cmp (fun _ => op_eqT rfl hr) (mh_val (me_call (ih 2 (by decide)) hr rfl T.g_2 T.kp_2 T.b_2 .nil (fun _ => .nil) (mv_cons (m1_val (me_var 0)) mv_nil))) (mh_val (me_fz (mf_ls ma_nil))) (by rfl))))
theorem d_4 (T : Txt P w K mg base fa fd ca ci cd ka kt aS PL CLw) (ih : ∀ j, j < 24 → FnT P w K mg base (cn K ca PL) k (fa j) (fd j) (psT j) (φ j)) {f : Addr} {cdv : Value} {A : Around} {outer : List Env} {s : Shared} {H : Hp} {E : XK} (hr : TRoom k (A.deeper (envOfC "need_type" (defScope s_4) s.heap.objs.size f cdv))) :
    MSs (cxOf (CX P w) P w K mg base N_4 "need_type" (defScope s_4) f cdv A outer s H E) (cn K ca PL) (defBody s_4) (m_4 φ) := by
  have sc := sc_4
  exact (mss_cons (ms_set 1 sc.nd rfl (by first | exact Or.inl rfl | exact Or.inr rfl) (me_call (ih 2 (by decide)) hr rfl T.g_2 T.kp_2 T.b_2 .nil (fun _ => .nil) (mv_cons (m1_val (me_var 0)) mv_nil)))
  (mss_one (ms_if (mt_cmp (fun _ => op_neT rfl hr) (mh_name 1) (mh_val (me_fz (mf_ls ma_nil))) (by rfl)) (mss_one (ms_raise1 (k := 0) rfl T.c_0 T.r_0 hr rfl rfl T.gc_0 (ma_cons (me_ix rfl (mh_name 1) (mh_val me_int) (fun _ _ => rfl)) ma_nil))) mss_nil)))
theorem d_5 (T : Txt P w K mg base fa fd ca ci cd ka kt aS PL CLw) (ih : ∀ j, j < 24 → FnT P w K mg base (cn K ca PL) k (fa j) (fd j) (psT j) (φ j)) {f : Addr} {cdv : Value} {A : Around} {outer : List Env} {s : Shared} {H : Hp} {E : XK} (hr : TRoom k (A.deeper (envOfC "wrong_inputs" (defScope s_5) s.heap.objs.size f cdv))) :
    MSs (cxOf (CX P w) P w K mg base N_5 "wrong_inputs" (defScope s_5) f cdv A outer s H E) (cn K ca PL) (defBody s_5) (m_5 φ) := by
  have sc := sc_5
  exact (mss_cons (ms_if (MW.mt (mw_or (mt_not (mt_tru rfl (mh_val (me_isT .tuple rfl rfl T.n_isinstance rfl T.n_tuple rfl (mh_name 0))))) (mw_or1 (mt_cmp (fun _ => op_gtD) (mh_val (me_callB (fun _ => cr_lenD rfl) rfl T.n_len rfl (mh_name 0))) (mh_val (me_glob (v := .int 6) rfl T.k_MOST_INPUTS ⟨_, rfl⟩ (fun _ => .i))) (by rfl))))) (mss_one (ms_ret (me_fz (mf_ls (ma_cons me_non ma_nil))))) mss_nil)
  (mss_cons (ms_for rfl (mi_enumT rfl rfl T.n_enumerate (me_var 0)) (mg_tup rfl rfl (mgs_cons (mg_name 1 sc.nd rfl (by first | exact Or.inl rfl | exact Or.inr rfl)) (mgs_cons (mg_name 2 sc.nd rfl (by first | exact Or.inl rfl | exact Or.inr rfl)) mgs_nil)) (gC_len (gC_len (fun _ _ _ h => gZ_len h)))) (mss_one (ms_if (mt_not (mt_tru rfl (mh_val (me_call (ih 3 (by decide)) hr rfl T.g_3 T.kp_3 T.b_3 .nil (fun _ => .nil) (mv_cons (m1_val (me_var 2)) mv_nil))))) (mss_one (ms_ret (me_fz (mf_ls (ma_cons (me_var 1) ma_nil))))) mss_nil)))
  (mss_one (ms_ret (me_fz (mf_ls ma_nil))))))
theorem d_6 (T : Txt P w K mg base fa fd ca ci cd ka kt aS PL CLw) (ih : ∀ j, j < 24 → FnT P w K mg base (cn K ca PL) k (fa j) (fd j) (psT j) (φ j)) {f : Addr} {cdv : Value} {A : Around} {outer : List Env} {s : Shared} {H : Hp} {E : XK} (hr : TRoom k (A.deeper (envOfC "need_inputs" (defScope s_6) s.heap.objs.size f cdv))) :
    MSs (cxOf (CX P w) P w K mg base N_6 "need_inputs" (defScope s_6) f cdv A outer s H E) (cn K ca PL) (defBody s_6) (m_6 φ) := by
  have sc := sc_6
  exact (mss_cons (ms_set 1 sc.nd rfl (by first | exact Or.inl rfl | exact Or.inr rfl) (me_call (ih 5 (by decide)) hr rfl T.g_5 T.kp_5 T.b_5 .nil (fun _ => .nil) (mv_cons (m1_val (me_var 0)) mv_nil)))
  (mss_one (ms_if (mt_cmp (fun _ => op_neT rfl hr) (mh_name 1) (mh_val (me_fz (mf_ls ma_nil))) (by rfl)) (mss_one (ms_raise1 (k := 1) rfl T.c_1 T.r_1 hr rfl rfl T.gc_1 (ma_cons (me_ix rfl (mh_name 1) (mh_val me_int) (fun _ _ => rfl)) ma_nil))) mss_nil)))
theorem d_7 (T : Txt P w K mg base fa fd ca ci cd ka kt aS PL CLw) (ih : ∀ j, j < 24 → FnT P w K mg base (cn K ca PL) k (fa j) (fd j) (psT j) (φ j)) {f : Addr} {cdv : Value} {A : Around} {outer : List Env} {s : Shared} {H : Hp} {E : XK} (hr : TRoom k (A.deeper (envOfC "own_size" (defScope s_7) s.heap.objs.size f cdv))) :
    MSs (cxOf (CX P w) P w K mg base N_7 "own_size" (defScope s_7) f cdv A outer s H E) (cn K ca PL) (defBody s_7) (m_7 φ) := by
  have sc := sc_7
  exact (mss_cons (ms_par rfl sc.nd rfl rfl (by decide) rfl rfl (mm_new (mf_ls (ma_cons (me_var 0) ma_nil)) (mm_val me_int mm_nil)) rfl)
  (mss_cons (ms_while 3000 (mt_cmp (fun _ => op_neT rfl hr) (mh_name 1) (mh_val (me_fz (mf_ls ma_nil))) (by rfl)) (mss_cons (ms_set 3 sc.nd rfl (by first | exact Or.inl rfl | exact Or.inr rfl) (me_pop 1 rfl (by first | exact Or.inl rfl | exact Or.inr (Or.inl rfl) | exact Or.inr (Or.inr rfl))))
  (mss_cons (ms_aug 2 sc.nd rfl (by first | exact Or.inl rfl | exact Or.inr rfl) (fun _ => ip_addD) me_int)
  (mss_one (ms_if (mt_cmp (fun _ => op_eqT rfl hr) (mh_val (me_callB (fun _ => cr_lenD rfl) rfl T.n_len rfl (mh_name 3))) (mh_val me_int) (by rfl)) (mss_one (ms_expr (me_extend 1 rfl rfl (by first | exact Or.inl rfl | exact Or.inr (Or.inl rfl) | exact Or.inr (Or.inr rfl)) (me_slice rfl (mh_name 3) (mp_some me_int) mp_none)))) mss_nil)))))
  (mss_one (ms_ret (me_var 2)))))
theorem d_8 (T : Txt P w K mg base fa fd ca ci cd ka kt aS PL CLw) (ih : ∀ j, j < 24 → FnT P w K mg base (cn K ca PL) k (fa j) (fd j) (psT j) (φ j)) {f : Addr} {cdv : Value} {A : Around} {outer : List Env} {s : Shared} {H : Hp} {E : XK} (hr : TRoom k (A.deeper (envOfC "size_of_type" (defScope s_8) s.heap.objs.size f cdv))) :
    MSs (cxOf (CX P w) P w K mg base N_8 "size_of_type" (defScope s_8) f cdv A outer s H E) (cn K ca PL) (defBody s_8) (m_8 φ) := by
  have sc := sc_8
  exact (mss_cons (ms_expr (me_call (ih 4 (by decide)) hr rfl T.g_4 T.kp_4 T.b_4 .nil (fun _ => .nil) (mv_cons (m1_val (me_var 0)) mv_nil)))
  (mss_one (ms_ret (me_call (ih 7 (by decide)) hr rfl T.g_7 T.kp_7 T.b_7 .nil (fun _ => .nil) (mv_cons (m1_val (me_var 0)) mv_nil)))))
theorem d_9 (T : Txt P w K mg base fa fd ca ci cd ka kt aS PL CLw) (ih : ∀ j, j < 24 → FnT P w K mg base (cn K ca PL) k (fa j) (fd j) (psT j) (φ j)) {f : Addr} {cdv : Value} {A : Around} {outer : List Env} {s : Shared} {H : Hp} {E : XK} (hr : TRoom k (A.deeper (envOfC "own_atoms" (defScope s_9) s.heap.objs.size f cdv))) :
    MSs (cxOf (CX P w) P w K mg base N_9 "own_atoms" (defScope s_9) f cdv A outer s H E) (cn K ca PL) (defBody s_9) (m_9 φ) := by
  have sc := sc_9
  exact (mss_cons (ms_par rfl sc.nd rfl rfl (by decide) rfl rfl (mm_new (mf_ls (ma_cons (me_var 0) ma_nil)) (mm_new (mf_ls ma_nil) mm_nil)) rfl)
  (mss_cons (ms_while 3000 (mt_cmp (fun _ => op_neT rfl hr) (mh_name 1) (mh_val (me_fz (mf_ls ma_nil))) (by rfl)) (mss_cons (ms_set 3 sc.nd rfl (by first | exact Or.inl rfl | exact Or.inr rfl) (me_pop 1 rfl (by first | exact Or.inl rfl | exact Or.inr (Or.inl rfl) | exact Or.inr (Or.inr rfl))))
  (mss_cons (ms_if (MW.mt (mw_and (mt_cmp (fun _ => op_eqT rfl hr) (mh_val (me_ix rfl (mh_name 3) (mh_val me_int) (fun _ _ => rfl))) (mh_val me_str) (by rfl)) (mw_and1 (mt_cmp (fun _ => op_notInT rfl hr) (mh_val (me_ix rfl (mh_name 3) (mh_val me_int) (fun _ _ => rfl))) (mh_name 2) (by rfl))))) (mss_one (ms_expr (me_append 2 rfl (by first | exact Or.inl rfl | exact Or.inr (Or.inl rfl) | exact Or.inr (Or.inr rfl)) (me_ix rfl (mh_name 3) (mh_val me_int) (fun _ _ => rfl))))) mss_nil)
  (mss_one (ms_if (mt_cmp (fun _ => op_eqT rfl hr) (mh_val (me_callB (fun _ => cr_lenD rfl) rfl T.n_len rfl (mh_name 3))) (mh_val me_int) (by rfl)) (mss_one (ms_expr (me_extend 1 rfl rfl (by first | exact Or.inl rfl | exact Or.inr (Or.inl rfl) | exact Or.inr (Or.inr rfl)) (me_slice rfl (mh_name 3) (mp_some me_int) mp_none)))) mss_nil)))))
  (mss_one (ms_ret (me_join rfl me_str (mh_val (me_fz (mf_sorted rfl rfl T.n_sorted rfl (mh_name 2)))))))))
theorem d_10 (T : Txt P w K mg base fa fd ca ci cd ka kt aS PL CLw) (ih : ∀ j, j < 24 → FnT P w K mg base (cn K ca PL) k (fa j) (fd j) (psT j) (φ j)) {f : Addr} {cdv : Value} {A : Around} {outer : List Env} {s : Shared} {H : Hp} {E : XK} (hr : TRoom k (A.deeper (envOfC "atoms_of" (defScope s_10) s.heap.objs.size f cdv))) :
    MSs (cxOf (CX P w) P w K mg base N_10 "atoms_of" (defScope s_10) f cdv A outer s H E) (cn K ca PL) (defBody s_10) (m_10 φ) := by
  have sc := sc_10
  exact (mss_cons (ms_expr (me_call (ih 4 (by decide)) hr rfl T.g_4 T.kp_4 T.b_4 .nil (fun _ => .nil) (mv_cons (m1_val (me_var 0)) mv_nil)))
  (mss_one (ms_ret (me_call (ih 9 (by decide)) hr rfl T.g_9 T.kp_9 T.b_9 .nil (fun _ => .nil) (mv_cons (m1_val (me_var 0)) mv_nil)))))
theorem d_11 (T : Txt P w K mg base fa fd ca ci cd ka kt aS PL CLw) (ih : ∀ j, j < 24 → FnT P w K mg base (cn K ca PL) k (fa j) (fd j) (psT j) (φ j)) {f : Addr} {cdv : Value} {A : Around} {outer : List Env} {s : Shared} {H : Hp} {E : XK} (hr : TRoom k (A.deeper (envOfC "type_key" (defScope s_11) s.heap.objs.size f cdv))) :
    MSs (cxOf (CX P w) P w K mg base N_11 "type_key" (defScope s_11) f cdv A outer s H E) (cn K ca PL) (defBody s_11) (m_11 φ) := by
  have sc := sc_11
  exact (mss_cons (ms_if (mt_cmp (fun _ => op_eqT rfl hr) (mh_val (me_callB (fun _ => cr_lenD rfl) rfl T.n_len rfl (mh_name 0))) (mh_val me_int) (by rfl)) (mss_one (ms_ret (me_tup (ma_cons (me_call (ih 7 (by decide)) hr rfl T.g_7 T.kp_7 T.b_7 .nil (fun _ => .nil) (mv_cons (m1_val (me_var 0)) mv_nil)) (ma_cons (me_index rfl rfl T.k_KINDS ((T.kr_KINDS rfl)) T.kt_KINDS (me_ix rfl (mh_name 0) (mh_val me_int) (fun _ _ => rfl))) (ma_cons (me_call (ih 11 (by decide)) hr rfl T.g_11 T.kp_11 T.b_11 .nil (fun _ => .nil) (mv_cons (m1_val (me_ix rfl (mh_name 0) (mh_val me_int) (fun _ _ => rfl))) mv_nil)) (ma_cons (me_call (ih 11 (by decide)) hr rfl T.g_11 T.kp_11 T.b_11 .nil (fun _ => .nil) (mv_cons (m1_val (me_ix rfl (mh_name 0) (mh_val me_int) (fun _ _ => rfl))) mv_nil)) ma_nil))))))) mss_nil)
  (mss_one (ms_ret (me_tup (ma_cons me_int (ma_cons (me_index rfl rfl T.k_KINDS ((T.kr_KINDS rfl)) T.kt_KINDS (me_ix rfl (mh_name 0) (mh_val me_int) (fun _ _ => rfl))) (ma_cons (me_ix rfl (mh_name 0) (mh_val (me_neg (mh_val me_int))) (fun _ _ => rfl)) ma_nil)))))))
theorem d_12 (T : Txt P w K mg base fa fd ca ci cd ka kt aS PL CLw) (ih : ∀ j, j < 24 → FnT P w K mg base (cn K ca PL) k (fa j) (fd j) (psT j) (φ j)) {f : Addr} {cdv : Value} {A : Around} {outer : List Env} {s : Shared} {H : Hp} {E : XK} (hr : TRoom k (A.deeper (envOfC "is_type_before" (defScope s_12) s.heap.objs.size f cdv))) :
    MSs (cxOf (CX P w) P w K mg base N_12 "is_type_before" (defScope s_12) f cdv A outer s H E) (cn K ca PL) (defBody s_12) (m_12 φ) := by
  have sc := sc_12
  exact (mss_cons (ms_expr (me_call (ih 4 (by decide)) hr rfl T.g_4 T.kp_4 T.b_4 .nil (fun _ => .nil) (mv_cons (m1_val (me_var 0)) mv_nil)))
  (mss_cons (ms_expr (me_call (ih 4 (by decide)) hr rfl T.g_4 T.kp_4 T.b_4 .nil (fun _ => .nil) (mv_cons (m1_val (me_var 1)) mv_nil)))
  (mss_one (ms_ret (me_cmp (fun _ => op_ltT rfl hr) (mh_val (me_call (ih 11 (by decide)) hr rfl T.g_11 T.kp_11 T.b_11 .nil (fun _ => .nil) (mv_cons (m1_val (me_var 0)) mv_nil))) (mh_val (me_call (ih 11 (by decide)) hr rfl T.g_11 T.kp_11 T.b_11 .nil (fun _ => .nil) (mv_cons (m1_val (me_var 1)) mv_nil))) (by rfl))))))
theorem d_13 (T : Txt P w K mg base fa fd ca ci cd ka kt aS PL CLw) (ih : ∀ j, j < 24 → FnT P w K mg base (cn K ca PL) k (fa j) (fd j) (psT j) (φ j)) {f : Addr} {cdv : Value} {A : Around} {outer : List Env} {s : Shared} {H : Hp} {E : XK} (hr : TRoom k (A.deeper (envOfC "_law_mixed" (defScope s_13) s.heap.objs.size f cdv))) :
    MSs (cxOf (CX P w) P w K mg base N_13 "_law_mixed" (defScope s_13) f cdv A outer s H E) (cn K ca PL) (defBody s_13) (m_13 φ) := by
  have sc := sc_13
  exact (mss_cons (ms_set 2 sc.nd rfl (by first | exact Or.inl rfl | exact Or.inr rfl) (me_op (fun _ => op_addD rfl) (mh_val (me_op (fun _ => op_addD rfl) (mh_val (me_op (fun _ => op_modD) (mh_name 0) (mh_val (me_ix rfl (mh_val (me_fz (mf_ls (ma_cons me_int (ma_cons me_int (ma_cons me_int (ma_cons me_int ma_nil))))))) (mh_val (me_op (fun _ => op_modD) (mh_name 1) (mh_val me_int))) (fun _ _ => rfl))))) (mh_val (me_op (fun _ => op_mulD rfl) (mh_val me_int) (mh_name 1))))) (mh_val me_int)))
  (mss_one (ms_ret (me_op (fun _ => op_modD) (mh_val (me_op (fun _ => op_mulD rfl) (mh_val (me_op (fun _ => op_modD) (mh_val (me_op (fun _ => op_mulD rfl) (mh_name 2) (mh_name 2))) (mh_val me_int))) (mh_val me_int))) (mh_val me_int)))))
theorem d_14 (T : Txt P w K mg base fa fd ca ci cd ka kt aS PL CLw) (ih : ∀ j, j < 24 → FnT P w K mg base (cn K ca PL) k (fa j) (fd j) (psT j) (φ j)) {f : Addr} {cdv : Value} {A : Around} {outer : List Env} {s : Shared} {H : Hp} {E : XK} (hr : TRoom k (A.deeper (envOfC "_law_draw" (defScope s_14) s.heap.objs.size f cdv))) :
    MSs (cxOf (CX P w) P w K mg base N_14 "_law_draw" (defScope s_14) f cdv A outer s H E) (cn K ca PL) (defBody s_14) (m_14 φ) := by
  have sc := sc_14
  exact (mss_one (ms_retM (mc_dict (md_cons (me_ifExp (mt_cmp (fun _ => op_geD) (mh_name 0) (mh_val (me_op (fun _ => op_powD) (mh_val me_int) (mh_val me_int))) (by rfl)) (me_var 0) me_int) (md_cons (me_var 0) (md_cons (me_op (fun _ => op_mulD rfl) (mh_val me_int) (mh_name 1)) md_nil))) (by decide) (by decide) rfl rfl (by simp) (by decide))))
theorem d_15 (T : Txt P w K mg base fa fd ca ci cd ka kt aS PL CLw) (ih : ∀ j, j < 24 → FnT P w K mg base (cn K ca PL) k (fa j) (fd j) (psT j) (φ j)) {f : Addr} {cdv : Value} {A : Around} {outer : List Env} {s : Shared} {H : Hp} {E : XK} (hr : TRoom k (A.deeper (envOfC "_law_digit" (defScope s_15) s.heap.objs.size f cdv))) :
    MSs (cxOf (CX P w) P w K mg base N_15 "_law_digit" (defScope s_15) f cdv A outer s H E) (cn K ca PL) (defBody s_15) (m_15 φ) := by
  have sc := sc_15
  exact (mss_cons (ms_if (mt_cmp (fun _ => op_eqT rfl hr) (mh_val (me_dget 0 rfl (by first | exact Or.inl rfl | exact Or.inr (Or.inl rfl) | exact Or.inr (Or.inr rfl)) hr me_str (fun _ _ => rfl))) (mh_val me_int) (by rfl)) (mss_one (ms_for rfl (mi_range1 rfl T.n_range me_int) (mg_name 3 sc.nd rfl (by first | exact Or.inl rfl | exact Or.inr rfl)) (mss_cons (ms_dput 0 rfl (by first | exact Or.inl rfl | exact Or.inr (Or.inl rfl) | exact Or.inr (Or.inr rfl)) hr me_str (me_op (fun _ => op_addD rfl) (mh_val (me_dget 0 rfl (by first | exact Or.inl rfl | exact Or.inr (Or.inl rfl) | exact Or.inr (Or.inr rfl)) hr me_str (fun _ _ => rfl))) (mh_val me_int)))
  (mss_one (ms_dput 0 rfl (by first | exact Or.inl rfl | exact Or.inr (Or.inl rfl) | exact Or.inr (Or.inr rfl)) hr me_str (me_op (fun _ => op_addD rfl) (mh_val (me_op (fun _ => op_mulD rfl) (mh_val (me_dget 0 rfl (by first | exact Or.inl rfl | exact Or.inr (Or.inl rfl) | exact Or.inr (Or.inr rfl)) hr me_str (fun _ _ => rfl))) (mh_val me_int))) (mh_val (me_call (ih 13 (by decide)) hr rfl T.g_13 T.kp_13 T.b_13 .nil (fun _ => .nil) (mv_cons (m1_val (me_dget 0 rfl (by first | exact Or.inl rfl | exact Or.inr (Or.inl rfl) | exact Or.inr (Or.inr rfl)) hr me_str (fun _ _ => rfl))) (mv_cons (m1_val (me_dget 0 rfl (by first | exact Or.inl rfl | exact Or.inr (Or.inl rfl) | exact Or.inr (Or.inr rfl)) hr me_str (fun _ _ => rfl))) mv_nil)))))))))) mss_nil)
  (mss_cons (ms_set 2 sc.nd rfl (by first | exact Or.inl rfl | exact Or.inr rfl) (me_op (fun _ => op_modD) (mh_val (me_dget 0 rfl (by first | exact Or.inl rfl | exact Or.inr (Or.inl rfl) | exact Or.inr (Or.inr rfl)) hr me_str (fun _ _ => rfl))) (mh_name 1)))
  (mss_cons (ms_dput 0 rfl (by first | exact Or.inl rfl | exact Or.inr (Or.inl rfl) | exact Or.inr (Or.inr rfl)) hr me_str (me_op (fun _ => op_fdivD) (mh_val (me_dget 0 rfl (by first | exact Or.inl rfl | exact Or.inr (Or.inl rfl) | exact Or.inr (Or.inr rfl)) hr me_str (fun _ _ => rfl))) (mh_name 1)))
  (mss_one (ms_ret (me_var 2))))))
theorem d_16 (T : Txt P w K mg base fa fd ca ci cd ka kt aS PL CLw) (ih : ∀ j, j < 24 → FnT P w K mg base (cn K ca PL) k (fa j) (fd j) (psT j) (φ j)) {f : Addr} {cdv : Value} {A : Around} {outer : List Env} {s : Shared} {H : Hp} {E : XK} (hr : TRoom k (A.deeper (envOfC "_law_type" (defScope s_16) s.heap.objs.size f cdv))) :
    MSs (cxOf (CX P w) P w K mg base N_16 "_law_type" (defScope s_16) f cdv A outer s H E) (cn K ca PL) (defBody s_16) (m_16 φ) := by
  have sc := sc_16
  exact (mss_cons (ms_set 2 sc.nd rfl (by first | exact Or.inl rfl | exact Or.inr rfl) (me_call (ih 15 (by decide)) hr rfl T.g_15 T.kp_15 T.b_15 .nil (fun _ => .nil) (mv_cons (m1_slot 0) (mv_cons (m1_val me_int) mv_nil))))
  (mss_cons (ms_if (MW.mt (mw_or (mt_cmp (fun _ => op_eqT rfl hr) (mh_name 1) (mh_val me_int) (by rfl)) (mw_or1 (mt_cmp (fun _ => op_ltD) (mh_name 2) (mh_val me_int) (by rfl))))) (mss_one (ms_ret (me_ix rfl (mh_val (me_fz (mf_ls (ma_cons (me_tup (ma_cons me_str (ma_cons me_str ma_nil))) (ma_cons (me_tup (ma_cons me_str (ma_cons me_str ma_nil))) (ma_cons (me_tup (ma_cons me_str ma_nil)) (ma_cons (me_tup (ma_cons me_str (ma_cons me_str ma_nil))) ma_nil))))))) (mh_val (me_call (ih 15 (by decide)) hr rfl T.g_15 T.kp_15 T.b_15 .nil (fun _ => .nil) (mv_cons (m1_slot 0) (mv_cons (m1_val me_int) mv_nil)))) (fun _ _ => rfl)))) mss_nil)
  (mss_cons (ms_set 3 sc.nd rfl (by first | exact Or.inl rfl | exact Or.inr rfl) (me_ix rfl (mh_val (me_fz (mf_ls (ma_cons me_str (ma_cons me_str (ma_cons me_str (ma_cons me_str (ma_cons me_str (ma_cons me_str ma_nil))))))))) (mh_val (me_op (fun _ => op_subD) (mh_name 2) (mh_val me_int))) (fun _ _ => rfl)))
  (mss_one (ms_ret (me_tup (ma_cons (me_var 3) (ma_cons (me_call (ih 16 (by decide)) hr rfl T.g_16 T.kp_16 T.b_16 .nil (fun _ => .nil) (mv_cons (m1_slot 0) (mv_cons (m1_val (me_op (fun _ => op_subD) (mh_name 1) (mh_val me_int))) mv_nil))) (ma_cons (me_call (ih 16 (by decide)) hr rfl T.g_16 T.kp_16 T.b_16 .nil (fun _ => .nil) (mv_cons (m1_slot 0) (mv_cons (m1_val (me_op (fun _ => op_subD) (mh_name 1) (mh_val me_int))) mv_nil))) ma_nil)))))))))
theorem d_18 (T : Txt P w K mg base fa fd ca ci cd ka kt aS PL CLw) (ih : ∀ j, j < 24 → FnT P w K mg base (cn K ca PL) k (fa j) (fd j) (psT j) (φ j)) {f : Addr} {cdv : Value} {A : Around} {outer : List Env} {s : Shared} {H : Hp} {E : XK} (hr : TRoom k (A.deeper (envOfC "_law_shape" (defScope s_18) s.heap.objs.size f cdv))) :
    MSs (cxOf (CX P w) P w K mg base N_18 "_law_shape" (defScope s_18) f cdv A outer s H E) (cn K ca PL) (defBody s_18) (m_18 φ) := by
  have sc := sc_18
  exact (mss_cons (ms_if (MW.mt (mw_or (mt_not (mt_tru rfl (mh_val (me_isT .tuple rfl rfl T.n_isinstance rfl T.n_tuple rfl (mh_name 0))))) (mw_or (mt_cmp (fun _ => op_eqT rfl hr) (mh_name 0) (mh_val (me_tup ma_nil)) (by rfl)) (mw_or1 (mt_not (mt_tru rfl (mh_val (me_isT .str rfl rfl T.n_isinstance rfl T.n_str rfl (mh_val (me_ix rfl (mh_name 0) (mh_val me_int) (fun _ _ => rfl))))))))))) (mss_one (ms_ret me_bl)) mss_nil)
  (mss_cons (ms_if (mt_cmp (fun _ => op_eqT rfl hr) (mh_val (me_ix rfl (mh_name 0) (mh_val me_int) (fun _ _ => rfl))) (mh_val me_str) (by rfl)) (mss_one (ms_ret (me_cmp (fun _ => op_eqT rfl hr) (mh_val (me_callB (fun _ => cr_lenD rfl) rfl T.n_len rfl (mh_name 0))) (mh_val me_int) (by rfl)))) mss_nil)
  (mss_cons (ms_if (mt_cmp (fun _ => op_eqT rfl hr) (mh_val (me_ix rfl (mh_name 0) (mh_val me_int) (fun _ _ => rfl))) (mh_val me_str) (by rfl)) (mss_one (ms_ret (me_and rfl (me_cmp (fun _ => op_eqT rfl hr) (mh_val (me_callB (fun _ => cr_lenD rfl) rfl T.n_len rfl (mh_name 0))) (mh_val me_int) (by rfl)) (me_and rfl (me_isT .str rfl rfl T.n_isinstance rfl T.n_str rfl (mh_val (me_ix rfl (mh_name 0) (mh_val me_int) (fun _ _ => rfl)))) (me_and rfl (me_cmp (fun _ => op_eqT rfl hr) (mh_val (me_callB (fun _ => cr_lenD rfl) rfl T.n_len rfl (mh_val (me_ix rfl (mh_name 0) (mh_val me_int) (fun _ _ => rfl))))) (mh_val me_int) (by rfl)) (me_one (me_chain (fun _ => op_leD) (fun _ => op_leD) (mh_val me_str) (mh_val (me_ix rfl (mh_name 0) (mh_val me_int) (fun _ _ => rfl))) (mh_val me_str)))))))) mss_nil)
  (mss_one (ms_ret (me_and rfl (me_cmp (fun _ => op_inT rfl hr) (mh_val (me_ix rfl (mh_name 0) (mh_val me_int) (fun _ _ => rfl))) (mh_val (me_tup (ma_cons me_str (ma_cons me_str (ma_cons me_str ma_nil))))) (by rfl)) (me_one (me_cmp (fun _ => op_eqT rfl hr) (mh_val (me_callB (fun _ => cr_lenD rfl) rfl T.n_len rfl (mh_name 0))) (mh_val me_int) (by rfl)))))))))
theorem d_19 (T : Txt P w K mg base fa fd ca ci cd ka kt aS PL CLw) (ih : ∀ j, j < 24 → FnT P w K mg base (cn K ca PL) k (fa j) (fd j) (psT j) (φ j)) {f : Addr} {cdv : Value} {A : Around} {outer : List Env} {s : Shared} {H : Hp} {E : XK} (hr : TRoom k (A.deeper (envOfC "_law_wrong" (defScope s_19) s.heap.objs.size f cdv))) :
    MSs (cxOf (CX P w) P w K mg base N_19 "_law_wrong" (defScope s_19) f cdv A outer s H E) (cn K ca PL) (defBody s_19) (m_19 φ) := by
  have sc := sc_19
  exact (mss_cons (ms_par rfl sc.nd rfl rfl (by decide) rfl rfl (mm_val (me_fz (mf_ls (ma_cons (me_tup (ma_cons (me_var 0) (ma_cons (me_tup ma_nil) ma_nil))) ma_nil))) (mm_val me_int mm_nil)) rfl)
  (mss_cons (ms_while 3000 (mt_cmp (fun _ => op_neT rfl hr) (mh_name 1) (mh_val (me_fz (mf_ls ma_nil))) (by rfl)) (mss_cons (ms_asg (me_ix rfl (mh_name 1) (mh_val me_int) (fun _ _ => rfl)) (mg_tup rfl rfl (mgs_cons (mg_name 3 sc.nd rfl (by first | exact Or.inl rfl | exact Or.inr rfl)) (mgs_cons (mg_name 4 sc.nd rfl (by first | exact Or.inl rfl | exact Or.inr rfl)) mgs_nil)) (gC_len (gC_len (fun _ _ _ h => gZ_len h)))))
  (mss_cons (ms_if (mt_cmp (fun _ => op_eqT rfl hr) (mh_name 2) (mh_val me_int) (by rfl)) (mss_one (ms_ret (me_fz (mf_ls (ma_cons me_str ma_nil))))) mss_nil)
  (mss_cons (ms_if (MW.mt (mw_or (mt_not (mt_tru rfl (mh_val (me_call (ih 18 (by decide)) hr rfl T.g_18 T.kp_18 T.b_18 .nil (fun _ => .nil) (mv_cons (m1_val (me_var 3)) mv_nil))))) (mw_or1 (mt_cmp (fun _ => op_gtD) (mh_val (me_callB (fun _ => cr_lenD rfl) rfl T.n_len rfl (mh_name 4))) (mh_val me_int) (by rfl))))) (mss_one (ms_ret (me_fz (mf_ls (ma_cons (me_var 4) ma_nil))))) mss_nil)
  (mss_cons (ms_par rfl sc.nd rfl rfl (by decide) rfl rfl (mm_val (me_op (fun _ => op_addD rfl) (mh_name 2) (mh_val me_int)) (mm_val (me_slice rfl (mh_name 1) (mp_some me_int) mp_none) mm_nil)) rfl)
  (mss_one (ms_if (mt_cmp (fun _ => op_eqT rfl hr) (mh_val (me_callB (fun _ => cr_lenD rfl) rfl T.n_len rfl (mh_name 3))) (mh_val me_int) (by rfl)) (mss_one (ms_set 1 sc.nd rfl (by first | exact Or.inl rfl | exact Or.inr rfl) (me_op (fun _ => op_addD rfl) (mh_val (me_fz (mf_ls (ma_cons (me_tup (ma_cons (me_ix rfl (mh_name 3) (mh_val me_int) (fun _ _ => rfl)) (ma_cons (me_op (fun _ => op_addD rfl) (mh_name 4) (mh_val (me_tup (ma_cons me_int ma_nil)))) ma_nil))) (ma_cons (me_tup (ma_cons (me_ix rfl (mh_name 3) (mh_val me_int) (fun _ _ => rfl)) (ma_cons (me_op (fun _ => op_addD rfl) (mh_name 4) (mh_val (me_tup (ma_cons me_int ma_nil)))) ma_nil))) ma_nil))))) (mh_name 1)))) mss_nil)))))))
  (mss_one (ms_ret (me_fz (mf_ls ma_nil))))))
theorem d_20 (T : Txt P w K mg base fa fd ca ci cd ka kt aS PL CLw) (ih : ∀ j, j < 24 → FnT P w K mg base (cn K ca PL) k (fa j) (fd j) (psT j) (φ j)) {f : Addr} {cdv : Value} {A : Around} {outer : List Env} {s : Shared} {H : Hp} {E : XK} (hr : TRoom k (A.deeper (envOfC "_law_bent" (defScope s_20) s.heap.objs.size f cdv))) :
    MSs (cxOf (CX P w) P w K mg base N_20 "_law_bent" (defScope s_20) f cdv A outer s H E) (cn K ca PL) (defBody s_20) (m_20 φ) := by
  have sc := sc_20
  exact (mss_cons (ms_if (MW.mt (mw_and (mt_cmp (fun _ => op_eqT rfl hr) (mh_val (me_callB (fun _ => cr_lenD rfl) rfl T.n_len rfl (mh_name 1))) (mh_val me_int) (by rfl)) (mw_and1 (mt_cmp (fun _ => op_gtD) (mh_val (me_call (ih 15 (by decide)) hr rfl T.g_15 T.kp_15 T.b_15 .nil (fun _ => .nil) (mv_cons (m1_slot 0) (mv_cons (m1_val me_int) mv_nil)))) (mh_val me_int) (by rfl))))) (mss_cons (ms_if (mt_cmp (fun _ => op_eqT rfl hr) (mh_val (me_call (ih 15 (by decide)) hr rfl T.g_15 T.kp_15 T.b_15 .nil (fun _ => .nil) (mv_cons (m1_slot 0) (mv_cons (m1_val me_int) mv_nil)))) (mh_val me_int) (by rfl)) (mss_one (ms_ret (me_tup (ma_cons (me_ix rfl (mh_name 1) (mh_val me_int) (fun _ _ => rfl)) (ma_cons (me_call (ih 20 (by decide)) hr rfl T.g_20 T.kp_20 T.b_20 .nil (fun _ => .nil) (mv_cons (m1_slot 0) (mv_cons (m1_val (me_ix rfl (mh_name 1) (mh_val me_int) (fun _ _ => rfl))) mv_nil))) (ma_cons (me_ix rfl (mh_name 1) (mh_val me_int) (fun _ _ => rfl)) ma_nil)))))) mss_nil)
  (mss_one (ms_ret (me_tup (ma_cons (me_ix rfl (mh_name 1) (mh_val me_int) (fun _ _ => rfl)) (ma_cons (me_ix rfl (mh_name 1) (mh_val me_int) (fun _ _ => rfl)) (ma_cons (me_call (ih 20 (by decide)) hr rfl T.g_20 T.kp_20 T.b_20 .nil (fun _ => .nil) (mv_cons (m1_slot 0) (mv_cons (m1_val (me_ix rfl (mh_name 1) (mh_val me_int) (fun _ _ => rfl))) mv_nil))) ma_nil))))))) mss_nil)
  (mss_cons (ms_set 2 sc.nd rfl (by first | exact Or.inl rfl | exact Or.inr rfl) (me_fz (mf_ls (ma_cons me_non (ma_cons me_int (ma_cons me_str (ma_cons (me_tup ma_nil) (ma_cons (me_tup (ma_cons me_str (ma_cons (me_tup ma_nil) ma_nil))) (ma_cons (me_tup (ma_cons me_str (ma_cons me_str ma_nil))) (ma_cons (me_tup (ma_cons me_str (ma_cons me_str ma_nil))) (ma_cons (me_tup (ma_cons me_str (ma_cons me_str ma_nil))) (ma_cons (me_tup (ma_cons me_str (ma_cons me_int ma_nil))) (ma_cons (me_tup (ma_cons me_str ma_nil)) (ma_cons (me_tup (ma_cons me_str (ma_cons (me_var 1) ma_nil))) ma_nil))))))))))))))
  (mss_cons (ms_set 2 sc.nd rfl (by first | exact Or.inl rfl | exact Or.inr rfl) (me_op (fun _ => op_addD rfl) (mh_name 2) (mh_val (me_fz (mf_ls (ma_cons (me_tup (ma_cons me_str (ma_cons (me_var 1) (ma_cons (me_var 1) (ma_cons (me_var 1) ma_nil))))) (ma_cons (me_tup (ma_cons me_str (ma_cons (me_var 1) ma_nil))) (ma_cons (me_fz (mf_ls (ma_cons me_str ma_nil))) (ma_cons (me_tup (ma_cons me_str (ma_cons (me_var 1) (ma_cons me_non ma_nil)))) (ma_cons (me_fz (mf_listOf rfl rfl T.n_list (mh_name 1))) (ma_cons (me_tup (ma_cons me_str ma_nil)) (ma_cons (me_var 1) ma_nil))))))))))))
  (mss_one (ms_ret (me_ix rfl (mh_name 2) (mh_val (me_call (ih 15 (by decide)) hr rfl T.g_15 T.kp_15 T.b_15 .nil (fun _ => .nil) (mv_cons (m1_slot 0) (mv_cons (m1_val me_int) mv_nil)))) (fun _ _ => rfl)))))))
theorem d_21 (T : Txt P w K mg base fa fd ca ci cd ka kt aS PL CLw) (ih : ∀ j, j < 24 → FnT P w K mg base (cn K ca PL) k (fa j) (fd j) (psT j) (φ j)) {f : Addr} {cdv : Value} {A : Around} {outer : List Env} {s : Shared} {H : Hp} {E : XK} (hr : TRoom k (A.deeper (envOfC "_law_great" (defScope s_21) s.heap.objs.size f cdv))) :
    MSs (cxOf (CX P w) P w K mg base N_21 "_law_great" (defScope s_21) f cdv A outer s H E) (cn K ca PL) (defBody s_21) (m_21 φ) := by
  have sc := sc_21
  exact (mss_cons (ms_set 1 sc.nd rfl (by first | exact Or.inl rfl | exact Or.inr rfl) (me_tup (ma_cons me_str (ma_cons me_str ma_nil))))
  (mss_cons (ms_if (mt_cmp (fun _ => op_eqT rfl hr) (mh_val (me_call (ih 15 (by decide)) hr rfl T.g_15 T.kp_15 T.b_15 .nil (fun _ => .nil) (mv_cons (m1_slot 0) (mv_cons (m1_val me_int) mv_nil)))) (mh_val me_int) (by rfl)) (mss_cons (ms_for rfl (mi_range1 rfl T.n_range (me_op (fun _ => op_addD rfl) (mh_val me_int) (mh_val (me_call (ih 15 (by decide)) hr rfl T.g_15 T.kp_15 T.b_15 .nil (fun _ => .nil) (mv_cons (m1_slot 0) (mv_cons (m1_val me_int) mv_nil)))))) (mg_name 3 sc.nd rfl (by first | exact Or.inl rfl | exact Or.inr rfl)) (mss_one (ms_set 1 sc.nd rfl (by first | exact Or.inl rfl | exact Or.inr rfl) (me_ifExp (mt_cmp (fun _ => op_eqT rfl hr) (mh_val (me_op (fun _ => op_modD) (mh_name 3) (mh_val me_int))) (mh_val me_int) (by rfl)) (me_tup (ma_cons me_str (ma_cons (me_var 1) (ma_cons (me_tup (ma_cons me_str ma_nil)) ma_nil)))) (me_tup (ma_cons me_str (ma_cons (me_tup (ma_cons me_str ma_nil)) (ma_cons (me_var 1) ma_nil))))))))
  (mss_one (ms_ret (me_var 1)))) mss_nil)
  (mss_cons (ms_own 2 sc.nd rfl (by first | exact Or.inl rfl | exact Or.inr rfl) (mf_rep (mf_ls (ma_cons (me_var 1) ma_nil)) (me_op (fun _ => op_addD rfl) (mh_val me_int) (mh_val (me_call (ih 15 (by decide)) hr rfl T.g_15 T.kp_15 T.b_15 .nil (fun _ => .nil) (mv_cons (m1_slot 0) (mv_cons (m1_val me_int) mv_nil)))))))
  (mss_cons (ms_if (mt_cmp (fun _ => op_eqT rfl hr) (mh_val (me_call (ih 15 (by decide)) hr rfl T.g_15 T.kp_15 T.b_15 .nil (fun _ => .nil) (mv_cons (m1_slot 0) (mv_cons (m1_val me_int) mv_nil)))) (mh_val me_int) (by rfl)) (mss_one (ms_lput 2 rfl (by first | exact Or.inl rfl | exact Or.inr (Or.inl rfl) | exact Or.inr (Or.inr rfl)) (me_ix rfl (mh_val (me_fz (mf_ls (ma_cons me_int (ma_cons me_int (ma_cons (me_op (fun _ => op_subD) (mh_val me_int) (mh_val (me_callB (fun _ => cr_lenD rfl) rfl T.n_len rfl (mh_name 2)))) (ma_cons (me_neg (mh_val me_int)) ma_nil))))))) (mh_val (me_call (ih 15 (by decide)) hr rfl T.g_15 T.kp_15 T.b_15 .nil (fun _ => .nil) (mv_cons (m1_slot 0) (mv_cons (m1_val me_int) mv_nil)))) (fun _ _ => rfl)) me_non)) mss_nil)
  (mss_cons (ms_while 3000 (mt_cmp (fun _ => op_gtD) (mh_val (me_callB (fun _ => cr_lenD rfl) rfl T.n_len rfl (mh_name 2))) (mh_val me_int) (by rfl)) (mss_one (ms_own 2 sc.nd rfl (by first | exact Or.inl rfl | exact Or.inr rfl) (mf_cat rfl (mh_val (me_fz (mf_lc (own := [("at", 4)]) (vs := [4]) rfl sc.nd rfl (by decide) (by show ∀ v ∈ ([4] : List Nat), v < 5; decide) (by decide) (mi_rangeC rfl T.n_range me_int (me_op (fun _ => op_subD) (mh_val (me_callB (fun _ => cr_lenD rfl) rfl T.n_len rfl (mh_name 2))) (mh_val me_int)) me_int) (blkOk_by (own := [("at", 4)]) (N := N_21) (sc := defScope s_21) (by decide +kernel)) (fun _ _ _ _ _ => (mg_name 4 sc.nd rfl (by first | exact Or.inl rfl | exact Or.inr rfl))) (fun _ _ _ _ _ => mif_nil) (fun _ _ _ _ _ => (me_tup (ma_cons me_str (ma_cons (me_ix rfl (mh_name 2) (mh_name 4) (fun _ _ => rfl)) (ma_cons (me_ix rfl (mh_name 2) (mh_val (me_op (fun _ => op_addD rfl) (mh_name 4) (mh_val me_int))) (fun _ _ => rfl)) ma_nil)))))))) (mh_val (me_slice rfl (mh_name 2) (mp_some (me_op (fun _ => op_subD) (mh_val (me_callB (fun _ => cr_lenD rfl) rfl T.n_len rfl (mh_name 2))) (mh_val (me_op (fun _ => op_modD) (mh_val (me_callB (fun _ => cr_lenD rfl) rfl T.n_len rfl (mh_name 2))) (mh_val me_int))))) mp_none))))))
  (mss_one (ms_ret (me_ix rfl (mh_name 2) (mh_val me_int) (fun _ _ => rfl)))))))))
theorem d_22 (T : Txt P w K mg base fa fd ca ci cd ka kt aS PL CLw) (ih : ∀ j, j < 24 → FnT P w K mg base (cn K ca PL) k (fa j) (fd j) (psT j) (φ j)) {f : Addr} {cdv : Value} {A : Around} {outer : List Env} {s : Shared} {H : Hp} {E : XK} (hr : TRoom k (A.deeper (envOfC "_law_key" (defScope s_22) s.heap.objs.size f cdv))) :
    MSs (cxOf (CX P w) P w K mg base N_22 "_law_key" (defScope s_22) f cdv A outer s H E) (cn K ca PL) (defBody s_22) (m_22 φ) := by
  have sc := sc_22
  exact (mss_cons (ms_set 1 sc.nd rfl (by first | exact Or.inl rfl | exact Or.inr rfl) (me_indexL rfl hr (mh_val (me_fz (mf_ls (ma_cons me_str (ma_cons me_str (ma_cons me_str (ma_cons me_str (ma_cons me_str ma_nil)))))))) (me_ix rfl (mh_name 0) (mh_val me_int) (fun _ _ => rfl))))
  (mss_cons (ms_if (mt_cmp (fun _ => op_ltD) (mh_val (me_callB (fun _ => cr_lenD rfl) rfl T.n_len rfl (mh_name 0))) (mh_val me_int) (by rfl)) (mss_one (ms_ret (me_tup (ma_cons me_int (ma_cons (me_var 1) (ma_cons (me_ix rfl (mh_name 0) (mh_val (me_neg (mh_val me_int))) (fun _ _ => rfl)) ma_nil)))))) mss_nil)
  (mss_cons (ms_par rfl sc.nd rfl rfl (by decide) rfl rfl (mm_val (me_call (ih 22 (by decide)) hr rfl T.g_22 T.kp_22 T.b_22 .nil (fun _ => .nil) (mv_cons (m1_val (me_ix rfl (mh_name 0) (mh_val me_int) (fun _ _ => rfl))) mv_nil)) (mm_val (me_call (ih 22 (by decide)) hr rfl T.g_22 T.kp_22 T.b_22 .nil (fun _ => .nil) (mv_cons (m1_val (me_ix rfl (mh_name 0) (mh_val me_int) (fun _ _ => rfl))) mv_nil)) mm_nil)) rfl)
  (mss_one (ms_ret (me_tup (ma_cons (me_op (fun _ => op_addD rfl) (mh_val (me_op (fun _ => op_addD rfl) (mh_val (me_ix rfl (mh_name 2) (mh_val me_int) (fun _ _ => rfl))) (mh_val (me_ix rfl (mh_name 3) (mh_val me_int) (fun _ _ => rfl))))) (mh_val me_int)) (ma_cons (me_var 1) (ma_cons (me_var 2) (ma_cons (me_var 3) ma_nil))))))))))
theorem d_23 (T : Txt P w K mg base fa fd ca ci cd ka kt aS PL CLw) (ih : ∀ j, j < 24 → FnT P w K mg base (cn K ca PL) k (fa j) (fd j) (psT j) (φ j)) (ih2 : ∀ j, j < 24 → FnT P w K mg base (cn K ca PL) k2 (fa j) (fd j) (psT j) (φ2 j)) {f : Addr} {A : Around} {outer : List Env} {s : Shared} {H : Hp} {E : XK} (hr : TRoom k (A.deeper (envOfC "law" (defScope s_23) s.heap.objs.size f (.ref CLw)))) (hk : k2 + 2 ≤ k) :
    MSs (cxOf (CX P w) P w K mg base N_23 "law" (defScope s_23) f (.ref CLw) A outer s H E) (cn K ca PL) (defBody s_23) (m_23 φ φ2) := by
  have hrk := hr.mono hk
  obtain ⟨oc17, od17, kV17, doc17, pm17, an17, cv17, ct17, osl17, lk_17, cd_17, b_17⟩ := T.ho_17
  have sc := sc_23
  exact (mss_cons (ms_for rfl (mi_enum rfl rfl T.n_enumerate (me_op (fun _ => op_addD rfl) (mh_val (me_slice rfl (mh_name 0) mp_none (mp_some me_int))) (mh_val (me_fz (mf_ls (ma_cons (me_callB (fun _ => cr_sumD rfl rfl) rfl T.n_sum rfl (mh_name 0)) ma_nil)))))) (mg_tup rfl rfl (mgs_cons (mg_name 1 sc.nd rfl (by first | exact Or.inl rfl | exact Or.inr rfl)) (mgs_cons (mg_name 2 sc.nd rfl (by first | exact Or.inl rfl | exact Or.inr rfl)) mgs_nil)) (gC_len (gC_len (fun _ _ _ h => gZ_len h)))) (mss_cons (ms_ownM 3 sc.nd rfl (by first | exact Or.inl rfl | exact Or.inr rfl) (mc_call (ih 14 (by decide)) hr rfl T.g_14 T.kp_14 T.b_14 .nil (fun _ => .nil) (mv_cons (m1_val (me_var 2)) (mv_cons (m1_val (me_var 1)) mv_nil))))
  (mss_cons (ms_asg (me_tup (ma_cons (me_call (ih 16 (by decide)) hr rfl T.g_16 T.kp_16 T.b_16 .nil (fun _ => .nil) (mv_cons (m1_slot 3) (mv_cons (m1_val me_int) mv_nil))) (ma_cons (me_call (ih 16 (by decide)) hr rfl T.g_16 T.kp_16 T.b_16 .nil (fun _ => .nil) (mv_cons (m1_slot 3) (mv_cons (m1_val me_int) mv_nil))) ma_nil))) (mg_tup rfl rfl (mgs_cons (mg_name 4 sc.nd rfl (by first | exact Or.inl rfl | exact Or.inr rfl)) (mgs_cons (mg_name 5 sc.nd rfl (by first | exact Or.inl rfl | exact Or.inr rfl)) mgs_nil)) (gC_len (gC_len (fun _ _ _ h => gZ_len h)))))
  (mss_cons (ms_setLc (own := [("turn", 10)]) (vs := [10]) rfl sc.nd rfl rfl rfl rfl (by decide) (by show ∀ v ∈ ([10] : List Nat), v < 13; decide) (by decide) (mi_range1 rfl T.n_range me_int) (blkOk_by (own := [("turn", 10)]) (N := N_23) (sc := defScope s_23) (by decide +kernel)) (fun _ _ _ _ _ => (mg_name 10 sc.nd rfl (by first | exact Or.inl rfl | exact Or.inr rfl))) (fun _ _ _ _ _ => mif_nil) (fun _ _ _ _ _ => (me_call (ih 20 (by decide)) hr rfl T.g_20 T.kp_20 T.b_20 .nil (fun _ => .nil) (mv_cons (m1_slot 3) (mv_cons (m1_val (me_var 4)) mv_nil)))))
  (mss_cons (ms_own 6 sc.nd rfl (by first | exact Or.inl rfl | exact Or.inr rfl) (mf_cat rfl (mh_name 6) (mh_val (me_fz (mf_ls (ma_cons (me_tup (ma_cons me_str (ma_cons (me_ix rfl (mh_name 6) (mh_val me_int) (fun _ _ => rfl)) (ma_cons (me_ix rfl (mh_name 6) (mh_val me_int) (fun _ _ => rfl)) ma_nil)))) (ma_cons (me_tup (ma_cons me_str (ma_cons (me_tup (ma_cons me_str (ma_cons (me_var 5) (ma_cons (me_ix rfl (mh_name 6) (mh_val me_int) (fun _ _ => rfl)) ma_nil)))) (ma_cons (me_ix rfl (mh_name 6) (mh_val me_int) (fun _ _ => rfl)) ma_nil)))) (ma_cons (me_tup (ma_cons me_str (ma_cons (me_var 4) (ma_cons (me_tup (ma_cons me_str (ma_cons (me_ix rfl (mh_name 6) (mh_val me_int) (fun _ _ => rfl)) ma_nil))) ma_nil)))) ma_nil))))))))
  (mss_cons (ms_for rfl (mi_list rfl (me_op (fun _ => op_addD rfl) (mh_val (me_op (fun _ => op_addD rfl) (mh_val (me_fz (mf_ls (ma_cons (me_var 4) ma_nil)))) (mh_val (me_fz (mf_lc (own := [("turn", 10)]) (vs := [10]) rfl sc.nd rfl (by decide) (by show ∀ v ∈ ([10] : List Nat), v < 13; decide) (by decide) (mi_range1 rfl T.n_range me_int) (blkOk_by (own := [("turn", 10)]) (N := N_23) (sc := defScope s_23) (by decide +kernel)) (fun _ _ _ _ _ => (mg_name 10 sc.nd rfl (by first | exact Or.inl rfl | exact Or.inr rfl))) (fun _ _ _ _ _ => mif_nil) (fun _ _ _ _ _ => (me_call (ih 21 (by decide)) hr rfl T.g_21 T.kp_21 T.b_21 .nil (fun _ => .nil) (mv_cons (m1_slot 3) mv_nil)))))))) (mh_name 6))) (mg_name 7 sc.nd rfl (by first | exact Or.inl rfl | exact Or.inr rfl)) (mss_cons (ms_set 9 sc.nd rfl (by first | exact Or.inl rfl | exact Or.inr rfl) (me_call (ih 19 (by decide)) hr rfl T.g_19 T.kp_19 T.b_19 .nil (fun _ => .nil) (mv_cons (m1_val (me_var 7)) mv_nil)))
  (mss_cons (ms_if (mt_cmp (fun _ => op_neS) (mh_val (me_callB (fun _ => cr_reprA rfl hr) rfl T.n_repr rfl (mh_val (me_lam (k := k2) rfl rfl T.g_17 T.kp_17 lk_17 cd_17 b_17 sc_17 rfl (by first | exact Or.inl rfl | exact Or.inr (Or.inl rfl) | exact Or.inr (Or.inr rfl)) T.TB rfl (List.mem_singleton.mpr rfl) (fun p hp _ => congrArg Prod.snd (List.mem_singleton.mp hp)) hrk (LamX.lamS_by (sc := defScope s_23) (by decide +kernel)) rfl (fun _ _ _ _ _ => rfl) (fun A2 outer2 s2 H2 E2 f2 c2 hr2 => (me_call (ih2 4 (by decide)) hr2 rfl T.g_4 T.kp_4 T.b_4 .nil (fun _ => .nil) (mv_cons (m1_val (me_var 7)) mv_nil))) (fun f2 c2 lv s2 H2 E2 hr2 th => d_17 T hr2 th))))) (mh_val (me_callB (fun _ => cr_reprA rfl hr) rfl T.n_repr rfl (mh_val (me_ifExp (mt_cmp (fun _ => op_eqT rfl hr) (mh_name 9) (mh_val (me_fz (mf_ls ma_nil))) (by rfl)) (me_fz (mf_ls (ma_cons me_non ma_nil))) (me_tup (ma_cons me_str (ma_cons (me_ix rfl (mh_name 9) (mh_val me_int) (fun _ _ => rfl)) ma_nil))))))) (by rfl)) (mss_one (ms_ret me_bl)) mss_nil)
  (mss_one (ms_if (mt_cmp (fun _ => op_neT rfl hr) (mh_name 9) (mh_val (me_fz (mf_ls ma_nil))) (by rfl)) (mss_cons (ms_own 11 sc.nd rfl (by first | exact Or.inl rfl | exact Or.inr rfl) (mf_ls (ma_cons (me_lam (k := k2) rfl rfl T.g_17 T.kp_17 lk_17 cd_17 b_17 sc_17 rfl (by first | exact Or.inl rfl | exact Or.inr (Or.inl rfl) | exact Or.inr (Or.inr rfl)) T.TB rfl (List.mem_singleton.mpr rfl) (fun p hp _ => congrArg Prod.snd (List.mem_singleton.mp hp)) hrk (LamX.lamS_by (sc := defScope s_23) (by decide +kernel)) rfl (fun _ _ _ _ _ => rfl) (fun A2 outer2 s2 H2 E2 f2 c2 hr2 => (me_call (ih2 8 (by decide)) hr2 rfl T.g_8 T.kp_8 T.b_8 .nil (fun _ => .nil) (mv_cons (m1_val (me_var 7)) mv_nil))) (fun f2 c2 lv s2 H2 E2 hr2 th => d_17 T hr2 th)) (ma_cons (me_lamD (k := k2) (z := "x") rfl rfl T.g_17 T.kp_17 lk_17 cd_17 b_17 sc_17 rfl (by first | exact Or.inl rfl | exact Or.inr (Or.inl rfl) | exact Or.inr (Or.inr rfl)) T.TB rfl (List.mem_singleton.mpr rfl) (fun p hp _ => congrArg Prod.snd (List.mem_singleton.mp hp)) hrk (lamD_by (sc := defScope s_23) (N := N_23) (by decide +kernel)) rfl rfl (fun _ _ _ _ _ _ _ _ _ h1 => BindsTo.of_defaults rfl h1 rfl rfl rfl) (fun A2 outer2 s2 H2 E2 f2 c2 hr2 => (me_call (ih2 10 (by decide)) hr2 rfl T.g_10 T.kp_10 T.b_10 .nil (fun _ => .nil) (mv_cons (m1_val (me_var 7)) mv_nil))) (fun f2 c2 lv s2 H2 E2 hr2 th => d_17 T hr2 th)) ma_nil))))
  (mss_cons (ms_own 11 sc.nd rfl (by first | exact Or.inl rfl | exact Or.inr rfl) (mf_cat rfl (mh_name 11) (mh_val (me_fz (mf_ls (ma_cons (me_lam (k := k2) rfl rfl T.g_17 T.kp_17 lk_17 cd_17 b_17 sc_17 rfl (by first | exact Or.inl rfl | exact Or.inr (Or.inl rfl) | exact Or.inr (Or.inr rfl)) T.TB rfl (List.mem_singleton.mpr rfl) (fun p hp _ => congrArg Prod.snd (List.mem_singleton.mp hp)) hrk (LamX.lamS_by (sc := defScope s_23) (by decide +kernel)) rfl (fun _ _ _ _ _ => rfl) (fun A2 outer2 s2 H2 E2 f2 c2 hr2 => (me_call (ih2 12 (by decide)) hr2 rfl T.g_12 T.kp_12 T.b_12 .nil (fun _ => .nil) (mv_cons (m1_val (me_var 7)) (mv_cons (m1_val me_non) mv_nil)))) (fun f2 c2 lv s2 H2 E2 hr2 th => d_17 T hr2 th)) (ma_cons (me_lamD (k := k2) (z := "x") rfl rfl T.g_17 T.kp_17 lk_17 cd_17 b_17 sc_17 rfl (by first | exact Or.inl rfl | exact Or.inr (Or.inl rfl) | exact Or.inr (Or.inr rfl)) T.TB rfl (List.mem_singleton.mpr rfl) (fun p hp _ => congrArg Prod.snd (List.mem_singleton.mp hp)) hrk (lamD_by (sc := defScope s_23) (N := N_23) (by decide +kernel)) rfl rfl (fun _ _ _ _ _ _ _ _ _ h1 => BindsTo.of_defaults rfl h1 rfl rfl rfl) (fun A2 outer2 s2 H2 E2 f2 c2 hr2 => (me_call (ih2 12 (by decide)) hr2 rfl T.g_12 T.kp_12 T.b_12 .nil (fun _ => .nil) (mv_cons (m1_val (me_var 4)) (mv_cons (m1_val (me_var 7)) mv_nil)))) (fun f2 c2 lv s2 H2 E2 hr2 th => d_17 T hr2 th)) ma_nil)))))))
  (mss_cons (ms_expr (me_append 11 rfl (by first | exact Or.inl rfl | exact Or.inr (Or.inl rfl) | exact Or.inr (Or.inr rfl)) (me_lam (k := k2) rfl rfl T.g_17 T.kp_17 lk_17 cd_17 b_17 sc_17 rfl (by first | exact Or.inl rfl | exact Or.inr (Or.inl rfl) | exact Or.inr (Or.inr rfl)) T.TB rfl (List.mem_singleton.mpr rfl) (fun p hp _ => congrArg Prod.snd (List.mem_singleton.mp hp)) hrk (LamX.lamS_by (sc := defScope s_23) (by decide +kernel)) rfl (fun _ _ _ _ _ => rfl) (fun A2 outer2 s2 H2 E2 f2 c2 hr2 => (me_call (ih2 6 (by decide)) hr2 rfl T.g_6 T.kp_6 T.b_6 .nil (fun _ => .nil) (mv_cons (m1_val (me_tup (ma_cons (me_var 5) (ma_cons (me_var 7) ma_nil)))) mv_nil))) (fun f2 c2 lv s2 H2 E2 hr2 th => d_17 T hr2 th))))
  (mss_one (ms_if (mt_cmp (fun _ => op_neS) (mh_val (me_callB (fun _ => cr_reprA rfl hr) rfl T.n_repr rfl (mh_name 11))) (mh_val (me_callB (fun _ => cr_reprA rfl hr) rfl T.n_repr rfl (mh_val (me_op (fun _ => op_addD rfl) (mh_val (me_fz (mf_rep (mf_ls (ma_cons (me_tup (ma_cons me_str (ma_cons (me_ix rfl (mh_name 9) (mh_val me_int) (fun _ _ => rfl)) ma_nil))) ma_nil)) me_int))) (mh_val (me_fz (mf_ls (ma_cons (me_tup (ma_cons me_str (ma_cons me_int ma_nil))) ma_nil)))))))) (by rfl)) (mss_one (ms_ret me_bl)) mss_nil))))) mss_nil)))))
  (mss_cons (ms_if (MW.mt (mw_or (mt_cmp (fun _ => op_neT rfl hr) (mh_val (me_call (ih 8 (by decide)) hr rfl T.g_8 T.kp_8 T.b_8 .nil (fun _ => .nil) (mv_cons (m1_val (me_var 4)) mv_nil))) (mh_val (me_ix rfl (mh_val (me_call (ih 22 (by decide)) hr rfl T.g_22 T.kp_22 T.b_22 .nil (fun _ => .nil) (mv_cons (m1_val (me_var 4)) mv_nil))) (mh_val me_int) (fun _ _ => rfl))) (by rfl)) (mw_or1 (mt_cmp (fun _ => op_neS) (mh_val (me_callB (fun _ => cr_reprA rfl hr) rfl T.n_repr rfl (mh_val (me_call (ih 12 (by decide)) hr rfl T.g_12 T.kp_12 T.b_12 .nil (fun _ => .nil) (mv_cons (m1_val (me_var 4)) (mv_cons (m1_val (me_var 5)) mv_nil)))))) (mh_val (me_callB (fun _ => cr_reprA rfl hr) rfl T.n_repr rfl (mh_val (me_cmp (fun _ => op_ltT rfl hr) (mh_val (me_call (ih 22 (by decide)) hr rfl T.g_22 T.kp_22 T.b_22 .nil (fun _ => .nil) (mv_cons (m1_val (me_var 4)) mv_nil))) (mh_val (me_call (ih 22 (by decide)) hr rfl T.g_22 T.kp_22 T.b_22 .nil (fun _ => .nil) (mv_cons (m1_val (me_var 5)) mv_nil))) (by rfl))))) (by rfl))))) (mss_one (ms_ret me_bl)) mss_nil)
  (mss_cons (ms_if (mt_cmp (fun _ => op_neT rfl hr) (mh_val (me_call (ih 10 (by decide)) hr rfl T.g_10 T.kp_10 T.b_10 .nil (fun _ => .nil) (mv_cons (m1_val (me_var 4)) mv_nil))) (mh_val (me_join rfl me_str (mh_val (me_fz (mf_lc (own := [("sign", 12)]) (vs := [12]) rfl sc.nd rfl (by decide) (by show ∀ v ∈ ([12] : List Nat), v < 13; decide) (by decide) (mi_str me_str) (blkOk_by (own := [("sign", 12)]) (N := N_23) (sc := defScope s_23) (by decide +kernel)) (fun _ _ _ _ _ => (mg_name 12 sc.nd rfl (by first | exact Or.inl rfl | exact Or.inr rfl))) (fun _ _ _ _ _ => (mif_one (mt_cmp (fun _ => op_inT rfl hr) (mh_val (me_callB (fun _ => cr_reprA rfl hr) rfl T.n_repr rfl (mh_val (me_tup (ma_cons me_str (ma_cons (me_var 12) ma_nil)))))) (mh_val (me_callB (fun _ => cr_reprA rfl hr) rfl T.n_repr rfl (mh_name 4))) (by rfl)))) (fun _ _ _ _ _ => (me_var 12))))))) (by rfl)) (mss_one (ms_ret me_bl)) mss_nil)
  (mss_cons (ms_set 8 sc.nd rfl (by first | exact Or.inl rfl | exact Or.inr rfl) (me_ix rfl (mh_val (me_fz (mf_ls (ma_cons me_non (ma_cons (me_fz (mf_ls (ma_cons (me_var 4) ma_nil))) (ma_cons me_str (ma_cons (me_op (fun _ => op_mulD rfl) (mh_val (me_tup (ma_cons (me_var 4) ma_nil))) (mh_val me_int)) (ma_cons me_int ma_nil)))))))) (mh_name 1) (fun _ _ => rfl)))
  (mss_one (ms_if (MW.mt (mw_or (mt_cmp (fun _ => op_neS) (mh_val (me_callB (fun _ => cr_reprA rfl hr) rfl T.n_repr rfl (mh_val (me_lam (k := k2) rfl rfl T.g_17 T.kp_17 lk_17 cd_17 b_17 sc_17 rfl (by first | exact Or.inl rfl | exact Or.inr (Or.inl rfl) | exact Or.inr (Or.inr rfl)) T.TB rfl (List.mem_singleton.mpr rfl) (fun p hp _ => congrArg Prod.snd (List.mem_singleton.mp hp)) hrk (LamX.lamS_by (sc := defScope s_23) (by decide +kernel)) rfl (fun _ _ _ _ _ => rfl) (fun A2 outer2 s2 H2 E2 f2 c2 hr2 => (me_call (ih2 6 (by decide)) hr2 rfl T.g_6 T.kp_6 T.b_6 .nil (fun _ => .nil) (mv_cons (m1_val (me_var 8)) mv_nil))) (fun f2 c2 lv s2 H2 E2 hr2 th => d_17 T hr2 th))))) (mh_val (me_callB (fun _ => cr_reprA rfl hr) rfl T.n_repr rfl (mh_val (me_tup (ma_cons me_str (ma_cons me_non ma_nil)))))) (by rfl)) (mw_or1 (mt_cmp (fun _ => op_isNotD) (mh_val (me_call (ih 6 (by decide)) hr rfl T.g_6 T.kp_6 T.b_6 .nil (fun _ => .nil) (mv_cons (m1_val (me_op (fun _ => op_mulD rfl) (mh_val (me_tup (ma_cons (me_var 4) ma_nil))) (mh_val me_int))) mv_nil))) (mh_val me_non) (by rfl))))) (mss_one (ms_ret me_bl)) mss_nil)))))))))))
  (mss_one (ms_ret (me_cmp (fun _ => op_isD) (mh_val (me_call (ih 6 (by decide)) hr rfl T.g_6 T.kp_6 T.b_6 .nil (fun _ => .nil) (mv_cons (m1_val (me_tup ma_nil)) mv_nil))) (mh_val me_non) (by rfl)))))
end
end LW

set_option Elab.async false
set_option linter.all false
set_option maxRecDepth 100000
namespace LW
open PySem TL
@[simp] theorem sk_atom : sok "atom" = true := by decide +kernel
@[simp] theorem so_atom : PyData.strOk "atom" = true := by decide +kernel
@[simp] theorem sq_atom_one : (("atom" : Str) = "one") = False := by decide +kernel
@[simp] theorem sq_atom_both : (("atom" : Str) = "both") = False := by decide +kernel
@[simp] theorem sq_atom_either : (("atom" : Str) = "either") = False := by decide +kernel
@[simp] theorem sq_atom_to : (("atom" : Str) = "to") = False := by decide +kernel
@[simp] theorem sq_atom_not : (("atom" : Str) = "not") = False := by decide +kernel
@[simp] theorem sq_atom_a : (("atom" : Str) = "a") = False := by decide +kernel
@[simp] theorem sq_atom_b : (("atom" : Str) = "b") = False := by decide +kernel
@[simp] theorem sq_atom_f : (("atom" : Str) = "f") = False := by decide +kernel
@[simp] theorem sq_atom_g : (("atom" : Str) = "g") = False := by decide +kernel
@[simp] theorem sq_atom_ab : (("atom" : Str) = "ab") = False := by decide +kernel
@[simp] theorem sq_atom_e : (("atom" : Str) = "") = False := by decide +kernel
@[simp] theorem sq_atom_size : (("atom" : Str) = "size") = False := by decide +kernel
@[simp] theorem sq_atom_type : (("atom" : Str) = "type") = False := by decide +kernel
@[simp] theorem sq_atom_inputs : (("atom" : Str) = "inputs") = False := by decide +kernel
@[simp] theorem sk_one : sok "one" = true := by decide +kernel
@[simp] theorem so_one : PyData.strOk "one" = true := by decide +kernel
@[simp] theorem sq_one_atom : (("one" : Str) = "atom") = False := by decide +kernel
@[simp] theorem sq_one_both : (("one" : Str) = "both") = False := by decide +kernel
@[simp] theorem sq_one_either : (("one" : Str) = "either") = False := by decide +kernel
@[simp] theorem sq_one_to : (("one" : Str) = "to") = False := by decide +kernel
@[simp] theorem sq_one_not : (("one" : Str) = "not") = False := by decide +kernel
@[simp] theorem sq_one_a : (("one" : Str) = "a") = False := by decide +kernel
@[simp] theorem sq_one_b : (("one" : Str) = "b") = False := by decide +kernel
@[simp] theorem sq_one_f : (("one" : Str) = "f") = False := by decide +kernel
@[simp] theorem sq_one_g : (("one" : Str) = "g") = False := by decide +kernel
@[simp] theorem sq_one_ab : (("one" : Str) = "ab") = False := by decide +kernel
@[simp] theorem sq_one_e : (("one" : Str) = "") = False := by decide +kernel
@[simp] theorem sq_one_size : (("one" : Str) = "size") = False := by decide +kernel
@[simp] theorem sq_one_type : (("one" : Str) = "type") = False := by decide +kernel
@[simp] theorem sq_one_inputs : (("one" : Str) = "inputs") = False := by decide +kernel
@[simp] theorem sk_both : sok "both" = true := by decide +kernel
@[simp] theorem so_both : PyData.strOk "both" = true := by decide +kernel
@[simp] theorem sq_both_atom : (("both" : Str) = "atom") = False := by decide +kernel
@[simp] theorem sq_both_one : (("both" : Str) = "one") = False := by decide +kernel
@[simp] theorem sq_both_either : (("both" : Str) = "either") = False := by decide +kernel
@[simp] theorem sq_both_to : (("both" : Str) = "to") = False := by decide +kernel
@[simp] theorem sq_both_not : (("both" : Str) = "not") = False := by decide +kernel
@[simp] theorem sq_both_a : (("both" : Str) = "a") = False := by decide +kernel
@[simp] theorem sq_both_b : (("both" : Str) = "b") = False := by decide +kernel
@[simp] theorem sq_both_f : (("both" : Str) = "f") = False := by decide +kernel
@[simp] theorem sq_both_g : (("both" : Str) = "g") = False := by decide +kernel
@[simp] theorem sq_both_ab : (("both" : Str) = "ab") = False := by decide +kernel
@[simp] theorem sq_both_e : (("both" : Str) = "") = False := by decide +kernel
@[simp] theorem sq_both_size : (("both" : Str) = "size") = False := by decide +kernel
@[simp] theorem sq_both_type : (("both" : Str) = "type") = False := by decide +kernel
@[simp] theorem sq_both_inputs : (("both" : Str) = "inputs") = False := by decide +kernel
@[simp] theorem sk_either : sok "either" = true := by decide +kernel
@[simp] theorem so_either : PyData.strOk "either" = true := by decide +kernel
@[simp] theorem sq_either_atom : (("either" : Str) = "atom") = False := by decide +kernel
@[simp] theorem sq_either_one : (("either" : Str) = "one") = False := by decide +kernel
@[simp] theorem sq_either_both : (("either" : Str) = "both") = False := by decide +kernel
@[simp] theorem sq_either_to : (("either" : Str) = "to") = False := by decide +kernel
@[simp] theorem sq_either_not : (("either" : Str) = "not") = False := by decide +kernel
@[simp] theorem sq_either_a : (("either" : Str) = "a") = False := by decide +kernel
@[simp] theorem sq_either_b : (("either" : Str) = "b") = False := by decide +kernel
@[simp] theorem sq_either_f : (("either" : Str) = "f") = False := by decide +kernel
@[simp] theorem sq_either_g : (("either" : Str) = "g") = False := by decide +kernel
@[simp] theorem sq_either_ab : (("either" : Str) = "ab") = False := by decide +kernel
@[simp] theorem sq_either_e : (("either" : Str) = "") = False := by decide +kernel
@[simp] theorem sq_either_size : (("either" : Str) = "size") = False := by decide +kernel
@[simp] theorem sq_either_type : (("either" : Str) = "type") = False := by decide +kernel
@[simp] theorem sq_either_inputs : (("either" : Str) = "inputs") = False := by decide +kernel
@[simp] theorem sk_to : sok "to" = true := by decide +kernel
@[simp] theorem so_to : PyData.strOk "to" = true := by decide +kernel
@[simp] theorem sq_to_atom : (("to" : Str) = "atom") = False := by decide +kernel
@[simp] theorem sq_to_one : (("to" : Str) = "one") = False := by decide +kernel
@[simp] theorem sq_to_both : (("to" : Str) = "both") = False := by decide +kernel
@[simp] theorem sq_to_either : (("to" : Str) = "either") = False := by decide +kernel
@[simp] theorem sq_to_not : (("to" : Str) = "not") = False := by decide +kernel
@[simp] theorem sq_to_a : (("to" : Str) = "a") = False := by decide +kernel
@[simp] theorem sq_to_b : (("to" : Str) = "b") = False := by decide +kernel
@[simp] theorem sq_to_f : (("to" : Str) = "f") = False := by decide +kernel
@[simp] theorem sq_to_g : (("to" : Str) = "g") = False := by decide +kernel
@[simp] theorem sq_to_ab : (("to" : Str) = "ab") = False := by decide +kernel
@[simp] theorem sq_to_e : (("to" : Str) = "") = False := by decide +kernel
@[simp] theorem sq_to_size : (("to" : Str) = "size") = False := by decide +kernel
@[simp] theorem sq_to_type : (("to" : Str) = "type") = False := by decide +kernel
@[simp] theorem sq_to_inputs : (("to" : Str) = "inputs") = False := by decide +kernel
@[simp] theorem sk_not : sok "not" = true := by decide +kernel
@[simp] theorem so_not : PyData.strOk "not" = true := by decide +kernel
@[simp] theorem sq_not_atom : (("not" : Str) = "atom") = False := by decide +kernel
@[simp] theorem sq_not_one : (("not" : Str) = "one") = False := by decide +kernel
@[simp] theorem sq_not_both : (("not" : Str) = "both") = False := by decide +kernel
@[simp] theorem sq_not_either : (("not" : Str) = "either") = False := by decide +kernel
@[simp] theorem sq_not_to : (("not" : Str) = "to") = False := by decide +kernel
@[simp] theorem sq_not_a : (("not" : Str) = "a") = False := by decide +kernel
@[simp] theorem sq_not_b : (("not" : Str) = "b") = False := by decide +kernel
@[simp] theorem sq_not_f : (("not" : Str) = "f") = False := by decide +kernel
@[simp] theorem sq_not_g : (("not" : Str) = "g") = False := by decide +kernel
@[simp] theorem sq_not_ab : (("not" : Str) = "ab") = False := by decide +kernel
@[simp] theorem sq_not_e : (("not" : Str) = "") = False := by decide +kernel
@[simp] theorem sq_not_size : (("not" : Str) = "size") = False := by decide +kernel
@[simp] theorem sq_not_type : (("not" : Str) = "type") = False := by decide +kernel
@[simp] theorem sq_not_inputs : (("not" : Str) = "inputs") = False := by decide +kernel
@[simp] theorem sk_a : sok "a" = true := by decide +kernel
@[simp] theorem so_a : PyData.strOk "a" = true := by decide +kernel
@[simp] theorem sq_a_atom : (("a" : Str) = "atom") = False := by decide +kernel
@[simp] theorem sq_a_one : (("a" : Str) = "one") = False := by decide +kernel
@[simp] theorem sq_a_both : (("a" : Str) = "both") = False := by decide +kernel
@[simp] theorem sq_a_either : (("a" : Str) = "either") = False := by decide +kernel
@[simp] theorem sq_a_to : (("a" : Str) = "to") = False := by decide +kernel
@[simp] theorem sq_a_not : (("a" : Str) = "not") = False := by decide +kernel
@[simp] theorem sq_a_b : (("a" : Str) = "b") = False := by decide +kernel
@[simp] theorem sq_a_f : (("a" : Str) = "f") = False := by decide +kernel
@[simp] theorem sq_a_g : (("a" : Str) = "g") = False := by decide +kernel
@[simp] theorem sq_a_ab : (("a" : Str) = "ab") = False := by decide +kernel
@[simp] theorem sq_a_e : (("a" : Str) = "") = False := by decide +kernel
@[simp] theorem sq_a_size : (("a" : Str) = "size") = False := by decide +kernel
@[simp] theorem sq_a_type : (("a" : Str) = "type") = False := by decide +kernel
@[simp] theorem sq_a_inputs : (("a" : Str) = "inputs") = False := by decide +kernel
@[simp] theorem sk_b : sok "b" = true := by decide +kernel
@[simp] theorem so_b : PyData.strOk "b" = true := by decide +kernel
@[simp] theorem sq_b_atom : (("b" : Str) = "atom") = False := by decide +kernel
@[simp] theorem sq_b_one : (("b" : Str) = "one") = False := by decide +kernel
@[simp] theorem sq_b_both : (("b" : Str) = "both") = False := by decide +kernel
@[simp] theorem sq_b_either : (("b" : Str) = "either") = False := by decide +kernel
@[simp] theorem sq_b_to : (("b" : Str) = "to") = False := by decide +kernel
@[simp] theorem sq_b_not : (("b" : Str) = "not") = False := by decide +kernel
@[simp] theorem sq_b_a : (("b" : Str) = "a") = False := by decide +kernel
@[simp] theorem sq_b_f : (("b" : Str) = "f") = False := by decide +kernel
@[simp] theorem sq_b_g : (("b" : Str) = "g") = False := by decide +kernel
@[simp] theorem sq_b_ab : (("b" : Str) = "ab") = False := by decide +kernel
@[simp] theorem sq_b_e : (("b" : Str) = "") = False := by decide +kernel
@[simp] theorem sq_b_size : (("b" : Str) = "size") = False := by decide +kernel
@[simp] theorem sq_b_type : (("b" : Str) = "type") = False := by decide +kernel
@[simp] theorem sq_b_inputs : (("b" : Str) = "inputs") = False := by decide +kernel
@[simp] theorem sk_f : sok "f" = true := by decide +kernel
@[simp] theorem so_f : PyData.strOk "f" = true := by decide +kernel
@[simp] theorem sq_f_atom : (("f" : Str) = "atom") = False := by decide +kernel
@[simp] theorem sq_f_one : (("f" : Str) = "one") = False := by decide +kernel
@[simp] theorem sq_f_both : (("f" : Str) = "both") = False := by decide +kernel
@[simp] theorem sq_f_either : (("f" : Str) = "either") = False := by decide +kernel
@[simp] theorem sq_f_to : (("f" : Str) = "to") = False := by decide +kernel
@[simp] theorem sq_f_not : (("f" : Str) = "not") = False := by decide +kernel
@[simp] theorem sq_f_a : (("f" : Str) = "a") = False := by decide +kernel
@[simp] theorem sq_f_b : (("f" : Str) = "b") = False := by decide +kernel
@[simp] theorem sq_f_g : (("f" : Str) = "g") = False := by decide +kernel
@[simp] theorem sq_f_ab : (("f" : Str) = "ab") = False := by decide +kernel
@[simp] theorem sq_f_e : (("f" : Str) = "") = False := by decide +kernel
@[simp] theorem sq_f_size : (("f" : Str) = "size") = False := by decide +kernel
@[simp] theorem sq_f_type : (("f" : Str) = "type") = False := by decide +kernel
@[simp] theorem sq_f_inputs : (("f" : Str) = "inputs") = False := by decide +kernel
@[simp] theorem sk_g : sok "g" = true := by decide +kernel
@[simp] theorem so_g : PyData.strOk "g" = true := by decide +kernel
@[simp] theorem sq_g_atom : (("g" : Str) = "atom") = False := by decide +kernel
@[simp] theorem sq_g_one : (("g" : Str) = "one") = False := by decide +kernel
@[simp] theorem sq_g_both : (("g" : Str) = "both") = False := by decide +kernel
@[simp] theorem sq_g_either : (("g" : Str) = "either") = False := by decide +kernel
@[simp] theorem sq_g_to : (("g" : Str) = "to") = False := by decide +kernel
@[simp] theorem sq_g_not : (("g" : Str) = "not") = False := by decide +kernel
@[simp] theorem sq_g_a : (("g" : Str) = "a") = False := by decide +kernel
@[simp] theorem sq_g_b : (("g" : Str) = "b") = False := by decide +kernel
@[simp] theorem sq_g_f : (("g" : Str) = "f") = False := by decide +kernel
@[simp] theorem sq_g_ab : (("g" : Str) = "ab") = False := by decide +kernel
@[simp] theorem sq_g_e : (("g" : Str) = "") = False := by decide +kernel
@[simp] theorem sq_g_size : (("g" : Str) = "size") = False := by decide +kernel
@[simp] theorem sq_g_type : (("g" : Str) = "type") = False := by decide +kernel
@[simp] theorem sq_g_inputs : (("g" : Str) = "inputs") = False := by decide +kernel
@[simp] theorem sk_ab : sok "ab" = true := by decide +kernel
@[simp] theorem so_ab : PyData.strOk "ab" = true := by decide +kernel
@[simp] theorem sq_ab_atom : (("ab" : Str) = "atom") = False := by decide +kernel
@[simp] theorem sq_ab_one : (("ab" : Str) = "one") = False := by decide +kernel
@[simp] theorem sq_ab_both : (("ab" : Str) = "both") = False := by decide +kernel
@[simp] theorem sq_ab_either : (("ab" : Str) = "either") = False := by decide +kernel
@[simp] theorem sq_ab_to : (("ab" : Str) = "to") = False := by decide +kernel
@[simp] theorem sq_ab_not : (("ab" : Str) = "not") = False := by decide +kernel
@[simp] theorem sq_ab_a : (("ab" : Str) = "a") = False := by decide +kernel
@[simp] theorem sq_ab_b : (("ab" : Str) = "b") = False := by decide +kernel
@[simp] theorem sq_ab_f : (("ab" : Str) = "f") = False := by decide +kernel
@[simp] theorem sq_ab_g : (("ab" : Str) = "g") = False := by decide +kernel
@[simp] theorem sq_ab_e : (("ab" : Str) = "") = False := by decide +kernel
@[simp] theorem sq_ab_size : (("ab" : Str) = "size") = False := by decide +kernel
@[simp] theorem sq_ab_type : (("ab" : Str) = "type") = False := by decide +kernel
@[simp] theorem sq_ab_inputs : (("ab" : Str) = "inputs") = False := by decide +kernel
@[simp] theorem sk_e : sok "" = true := by decide +kernel
@[simp] theorem so_e : PyData.strOk "" = true := by decide +kernel
@[simp] theorem sq_e_atom : (("" : Str) = "atom") = False := by decide +kernel
@[simp] theorem sq_e_one : (("" : Str) = "one") = False := by decide +kernel
@[simp] theorem sq_e_both : (("" : Str) = "both") = False := by decide +kernel
@[simp] theorem sq_e_either : (("" : Str) = "either") = False := by decide +kernel
@[simp] theorem sq_e_to : (("" : Str) = "to") = False := by decide +kernel
@[simp] theorem sq_e_not : (("" : Str) = "not") = False := by decide +kernel
@[simp] theorem sq_e_a : (("" : Str) = "a") = False := by decide +kernel
@[simp] theorem sq_e_b : (("" : Str) = "b") = False := by decide +kernel
@[simp] theorem sq_e_f : (("" : Str) = "f") = False := by decide +kernel
@[simp] theorem sq_e_g : (("" : Str) = "g") = False := by decide +kernel
@[simp] theorem sq_e_ab : (("" : Str) = "ab") = False := by decide +kernel
@[simp] theorem sq_e_size : (("" : Str) = "size") = False := by decide +kernel
@[simp] theorem sq_e_type : (("" : Str) = "type") = False := by decide +kernel
@[simp] theorem sq_e_inputs : (("" : Str) = "inputs") = False := by decide +kernel
@[simp] theorem sk_size : sok "size" = true := by decide +kernel
@[simp] theorem so_size : PyData.strOk "size" = true := by decide +kernel
@[simp] theorem sq_size_atom : (("size" : Str) = "atom") = False := by decide +kernel
@[simp] theorem sq_size_one : (("size" : Str) = "one") = False := by decide +kernel
@[simp] theorem sq_size_both : (("size" : Str) = "both") = False := by decide +kernel
@[simp] theorem sq_size_either : (("size" : Str) = "either") = False := by decide +kernel
@[simp] theorem sq_size_to : (("size" : Str) = "to") = False := by decide +kernel
@[simp] theorem sq_size_not : (("size" : Str) = "not") = False := by decide +kernel
@[simp] theorem sq_size_a : (("size" : Str) = "a") = False := by decide +kernel
@[simp] theorem sq_size_b : (("size" : Str) = "b") = False := by decide +kernel
@[simp] theorem sq_size_f : (("size" : Str) = "f") = False := by decide +kernel
@[simp] theorem sq_size_g : (("size" : Str) = "g") = False := by decide +kernel
@[simp] theorem sq_size_ab : (("size" : Str) = "ab") = False := by decide +kernel
@[simp] theorem sq_size_e : (("size" : Str) = "") = False := by decide +kernel
@[simp] theorem sq_size_type : (("size" : Str) = "type") = False := by decide +kernel
@[simp] theorem sq_size_inputs : (("size" : Str) = "inputs") = False := by decide +kernel
@[simp] theorem sk_type : sok "type" = true := by decide +kernel
@[simp] theorem so_type : PyData.strOk "type" = true := by decide +kernel
@[simp] theorem sq_type_atom : (("type" : Str) = "atom") = False := by decide +kernel
@[simp] theorem sq_type_one : (("type" : Str) = "one") = False := by decide +kernel
@[simp] theorem sq_type_both : (("type" : Str) = "both") = False := by decide +kernel
@[simp] theorem sq_type_either : (("type" : Str) = "either") = False := by decide +kernel
@[simp] theorem sq_type_to : (("type" : Str) = "to") = False := by decide +kernel
@[simp] theorem sq_type_not : (("type" : Str) = "not") = False := by decide +kernel
@[simp] theorem sq_type_a : (("type" : Str) = "a") = False := by decide +kernel
@[simp] theorem sq_type_b : (("type" : Str) = "b") = False := by decide +kernel
@[simp] theorem sq_type_f : (("type" : Str) = "f") = False := by decide +kernel
@[simp] theorem sq_type_g : (("type" : Str) = "g") = False := by decide +kernel
@[simp] theorem sq_type_ab : (("type" : Str) = "ab") = False := by decide +kernel
@[simp] theorem sq_type_e : (("type" : Str) = "") = False := by decide +kernel
@[simp] theorem sq_type_size : (("type" : Str) = "size") = False := by decide +kernel
@[simp] theorem sq_type_inputs : (("type" : Str) = "inputs") = False := by decide +kernel
@[simp] theorem sk_inputs : sok "inputs" = true := by decide +kernel
@[simp] theorem so_inputs : PyData.strOk "inputs" = true := by decide +kernel
@[simp] theorem sq_inputs_atom : (("inputs" : Str) = "atom") = False := by decide +kernel
@[simp] theorem sq_inputs_one : (("inputs" : Str) = "one") = False := by decide +kernel
@[simp] theorem sq_inputs_both : (("inputs" : Str) = "both") = False := by decide +kernel
@[simp] theorem sq_inputs_either : (("inputs" : Str) = "either") = False := by decide +kernel
@[simp] theorem sq_inputs_to : (("inputs" : Str) = "to") = False := by decide +kernel
@[simp] theorem sq_inputs_not : (("inputs" : Str) = "not") = False := by decide +kernel
@[simp] theorem sq_inputs_a : (("inputs" : Str) = "a") = False := by decide +kernel
@[simp] theorem sq_inputs_b : (("inputs" : Str) = "b") = False := by decide +kernel
@[simp] theorem sq_inputs_f : (("inputs" : Str) = "f") = False := by decide +kernel
@[simp] theorem sq_inputs_g : (("inputs" : Str) = "g") = False := by decide +kernel
@[simp] theorem sq_inputs_ab : (("inputs" : Str) = "ab") = False := by decide +kernel
@[simp] theorem sq_inputs_e : (("inputs" : Str) = "") = False := by decide +kernel
@[simp] theorem sq_inputs_size : (("inputs" : Str) = "size") = False := by decide +kernel
@[simp] theorem sq_inputs_type : (("inputs" : Str) = "type") = False := by decide +kernel
end LW

set_option Elab.async false
set_option linter.all false
set_option maxRecDepth 100000
set_option maxHeartbeats 4000000
namespace LW
open PySem L2 TL
theorem mixed (k : Nat) (c j : Int) (h0 : 0 ≤ j) (h1 : j ≤ 1000000) : ∃ r, Φ (k + 1) 13 [.val (.int c), .val (.int j)] = .ok (.int r) [.val (.int c), .val (.int j)] := by
  have go : ∀ m : Int, 0 < m → m < 4294967296 → W64 (c % m + 7919 * j + 13) = true := fun m p q => by
    have a := Int.emod_nonneg c (show m ≠ 0 by omega)
    have b := Int.emod_lt_of_pos c p
    simp [W64]; omega
  have w2 : ∀ x : Int, W64 (x % 2147483647) = true := fun x => by simp [W64]; omega
  have g1 := go 1000000007 (by decide) (by decide)
  have g2 := go 998244353 (by decide) (by decide)
  have g3 := go 2147483629 (by decide) (by decide)
  have g4 := go 1000000009 (by decide) (by decide)
  rcases (by omega : j % 4 = 0 ∨ j % 4 = 1 ∨ j % 4 = 2 ∨ j % 4 = 3) with h | h | h | h
  · exact ⟨(c % 1000000007 + 7919 * j + 13) * (c % 1000000007 + 7919 * j + 13) % 2147483647 * 48271 % 2147483647, by simp [runB, sSeq, sSet, sFz, sLs, sCons, sNil, sTup, sVar, sC, sRet, sOp, sHn, sHv, res, look, opAdd, ofOpt, O.bind, O.bindS, startS, inSlot, LIM, outsAt, outOf, sIsi, isX, isT, tyN, isA, sItL, sItT, gT, gC, gN, gZ, sTru, tru, sIfS, sOrT, sAndT, sNotT, sB, sAnd, sOr, sNot, sIf, sUn, fLen, sCall, sACons, sAv, sAs, sANil, slots, argsOf, argOf, putBack, put1, sPart, sExpr, Φ, m_13, h, opMod, opMul, opIx, atI, ixN, g1, w2, show W64 7919 = true by decide]⟩
  · exact ⟨(c % 998244353 + 7919 * j + 13) * (c % 998244353 + 7919 * j + 13) % 2147483647 * 48271 % 2147483647, by simp [runB, sSeq, sSet, sFz, sLs, sCons, sNil, sTup, sVar, sC, sRet, sOp, sHn, sHv, res, look, opAdd, ofOpt, O.bind, O.bindS, startS, inSlot, LIM, outsAt, outOf, sIsi, isX, isT, tyN, isA, sItL, sItT, gT, gC, gN, gZ, sTru, tru, sIfS, sOrT, sAndT, sNotT, sB, sAnd, sOr, sNot, sIf, sUn, fLen, sCall, sACons, sAv, sAs, sANil, slots, argsOf, argOf, putBack, put1, sPart, sExpr, Φ, m_13, h, opMod, opMul, opIx, atI, ixN, g2, w2, show W64 7919 = true by decide]⟩
  · exact ⟨(c % 2147483629 + 7919 * j + 13) * (c % 2147483629 + 7919 * j + 13) % 2147483647 * 48271 % 2147483647, by simp [runB, sSeq, sSet, sFz, sLs, sCons, sNil, sTup, sVar, sC, sRet, sOp, sHn, sHv, res, look, opAdd, ofOpt, O.bind, O.bindS, startS, inSlot, LIM, outsAt, outOf, sIsi, isX, isT, tyN, isA, sItL, sItT, gT, gC, gN, gZ, sTru, tru, sIfS, sOrT, sAndT, sNotT, sB, sAnd, sOr, sNot, sIf, sUn, fLen, sCall, sACons, sAv, sAs, sANil, slots, argsOf, argOf, putBack, put1, sPart, sExpr, Φ, m_13, h, opMod, opMul, opIx, atI, ixN, g3, w2, show W64 7919 = true by decide]⟩
  · exact ⟨(c % 1000000009 + 7919 * j + 13) * (c % 1000000009 + 7919 * j + 13) % 2147483647 * 48271 % 2147483647, by simp [runB, sSeq, sSet, sFz, sLs, sCons, sNil, sTup, sVar, sC, sRet, sOp, sHn, sHv, res, look, opAdd, ofOpt, O.bind, O.bindS, startS, inSlot, LIM, outsAt, outOf, sIsi, isX, isT, tyN, isA, sItL, sItT, gT, gC, gN, gZ, sTru, tru, sIfS, sOrT, sAndT, sNotT, sB, sAnd, sOr, sNot, sIf, sUn, fLen, sCall, sACons, sAv, sAs, sANil, slots, argsOf, argOf, putBack, put1, sPart, sExpr, Φ, m_13, h, opMod, opMul, opIx, atI, ixN, g4, w2, show W64 7919 = true by decide]⟩
def st (l c t : Int) : MO := .dct [(.inr "left", .int l), (.inr "cell", .int c), (.inr "turns", .int t)]
theorem ne1 : ¬ (("left" : Str) = "cell") := by decide +kernel
theorem ne2 : ¬ (("left" : Str) = "turns") := by decide +kernel
theorem ne3 : ¬ (("cell" : Str) = "left") := by decide +kernel
theorem ne4 : ¬ (("cell" : Str) = "turns") := by decide +kernel
theorem ne5 : ¬ (("turns" : Str) = "left") := by decide +kernel
theorem ne6 : ¬ (("turns" : Str) = "cell") := by decide +kernel
theorem digit0 (k : Nat) (l c t b : Int) (hb : 0 < b) (hb2 : b.natAbs.log2 < 9000) (ht : 0 ≤ t) (ht2 : t ≤ 900000) : ∃ d l' t', Φ (k + 2) 15 [.own (st l c t), .val (.int b)] = .ok (.int d) [.own (st l' c t'), .val (.int b)] ∧ 0 ≤ d ∧ d < b ∧ t ≤ t' ∧ t' ≤ t + 4 := by
  have p1 : ∀ x : Int, 0 ≤ x % b := fun x => Int.emod_nonneg x (by omega)
  have p2 : ∀ x : Int, x % b < b := fun x => Int.emod_lt_of_pos x hb
  have wm : W64 2147483647 = true := by decide
  by_cases hl : l = 0
  · obtain ⟨r1, e1⟩ := mixed k c (t + 1) (by omega) (by omega)
    obtain ⟨r2, e2⟩ := mixed k c (t + 2) (by omega) (by omega)
    obtain ⟨r3, e3⟩ := mixed k c (t + 3) (by omega) (by omega)
    obtain ⟨r4, e4⟩ := mixed k c (t + 4) (by omega) (by omega)
    refine ⟨(((r1 * 2147483647 + r2) * 2147483647 + r3) * 2147483647 + r4) % b, (((r1 * 2147483647 + r2) * 2147483647 + r3) * 2147483647 + r4) / b, t + 4, ?_, p1 _, p2 _, by omega, by omega⟩
    show runB 4 2 (m_15 (Φ (k + 1))) _ = _
    simp [runB, sSeq, sSet, sFz, sLs, sCons, sNil, sTup, sVar, sC, sRet, sOp, sHn, sHv, res, look, opAdd, ofOpt, O.bind, O.bindS, startS, inSlot, LIM, outsAt, outOf, sIsi, isX, isT, tyN, isA, sItL, sItT, gT, gC, gN, gZ, sTru, tru, sIfS, sOrT, sAndT, sNotT, sB, sAnd, sOr, sNot, sIf, sUn, fLen, sCall, sACons, sAv, sAs, sANil, slots, argsOf, argOf, putBack, put1, sPart, sExpr, m_15, lb_15_0, lf_15_0, st, sDget, sDput, curD, TL.keyOf, dget, dput, cEq, ok, deq, sFor, sForL, sRng1, R62, TL.upTo, opMul, opMod, opFdiv, wm, hl, ne1, ne2, ne3, ne4, ne5, ne6, e1, e2, e3, e4, hb, hb2, List.range, List.range.loop, Int.add_assoc]
  · refine ⟨l % b, l / b, t, ?_, p1 _, p2 _, by omega, by omega⟩
    show runB 4 2 (m_15 (Φ (k + 1))) _ = _
    simp [runB, sSeq, sSet, sFz, sLs, sCons, sNil, sTup, sVar, sC, sRet, sOp, sHn, sHv, res, look, opAdd, ofOpt, O.bind, O.bindS, startS, inSlot, LIM, outsAt, outOf, sIsi, isX, isT, tyN, isA, sItL, sItT, gT, gC, gN, gZ, sTru, tru, sIfS, sOrT, sAndT, sNotT, sB, sAnd, sOr, sNot, sIf, sUn, fLen, sCall, sACons, sAv, sAs, sANil, slots, argsOf, argOf, putBack, put1, sPart, sExpr, m_15, lb_15_0, lf_15_0, st, sDget, sDput, curD, TL.keyOf, dget, dput, cEq, ok, deq, opMul, opMod, opFdiv, ne1, ne2, ne3, ne4, ne5, ne6, hl, hb, hb2]
def e18 : Int := 10 ^ (18 : Int).toNat
theorem pw18 : opPow (.int 10) (.int 18) = some (.int e18) := by
  simp only [opPow]; rw [if_pos]
  · rfl
  · decide +kernel
theorem draw (k : Nat) (c j : Int) : ∃ l, Φ (k + 1) 14 [.val (.int c), .val (.int j)] = .okm (st l c (1000 * j)) [.val (.int c), .val (.int j)] := by
  by_cases h : e18 ≤ c
  · exact ⟨c, by simp [runB, sSeq, sSet, sFz, sLs, sCons, sNil, sTup, sVar, sC, sRet, sOp, sHn, sHv, res, look, opAdd, ofOpt, O.bind, O.bindS, startS, inSlot, LIM, outsAt, outOf, sIsi, isX, isT, tyN, isA, sItL, sItT, gT, gC, gN, gZ, sTru, tru, sIfS, sOrT, sAndT, sNotT, sB, sAnd, sOr, sNot, sIf, sUn, fLen, sCall, sACons, sAv, sAs, sANil, slots, argsOf, argOf, putBack, put1, sPart, sExpr, Φ, m_14, st, sRetM, sDict, cGe, pw18, opMul, h, show W64 1000 = true by decide]⟩
  · exact ⟨0, by simp [runB, sSeq, sSet, sFz, sLs, sCons, sNil, sTup, sVar, sC, sRet, sOp, sHn, sHv, res, look, opAdd, ofOpt, O.bind, O.bindS, startS, inSlot, LIM, outsAt, outOf, sIsi, isX, isT, tyN, isA, sItL, sItT, gT, gC, gN, gZ, sTru, tru, sIfS, sOrT, sAndT, sNotT, sB, sAnd, sOr, sNot, sIf, sUn, fLen, sCall, sACons, sAv, sAs, sANil, slots, argsOf, argOf, putBack, put1, sPart, sExpr, Φ, m_14, st, sRetM, sDict, cGe, pw18, opMul, h, show W64 1000 = true by decide]⟩
/-- a state whose turns are at most T -/
def St (T : Int) (m : MO) : Prop := ∃ l c t, m = st l c t ∧ 0 ≤ t ∧ t ≤ T
theorem St.le {T T' : Int} {m : MO} (h : St T m) (q : T ≤ T') : St T' m := by
  obtain ⟨l, c, t, e, h1, h2⟩ := h
  exact ⟨l, c, t, e, h1, by omega⟩
theorem digit (k : Nat) {T : Int} {m : MO} (b : Int) (h : St T m) (hT : T ≤ 900000) (hb : 0 < b) (hb2 : b ≤ 1000) : ∃ d m', Φ (k + 2) 15 [.own m, .val (.int b)] = .ok (.int d) [.own m', .val (.int b)] ∧ 0 ≤ d ∧ d < b ∧ St (T + 4) m' := by
  obtain ⟨l, c, t, rfl, h1, h2⟩ := h
  have hl : b.natAbs.log2 < 9000 := by
    by_cases h0 : b.natAbs = 0
    · rw [h0]; decide
    · exact Nat.lt_of_lt_of_le ((Nat.log2_lt h0 (k := 10)).mpr (by omega)) (by decide)
  obtain ⟨d, l', t', e, d0, d1, t1, t2⟩ := digit0 k l c t b hb hl h1 (by omega)
  exact ⟨d, _, e, d0, d1, l', c, t', rfl, by omega, by omega⟩
end LW

set_option Elab.async false
set_option linter.all false
set_option maxRecDepth 100000
set_option maxHeartbeats 4000000
namespace LW
open PySem L2 TL
/-! ### the shape of a type -/
def atomD : D → Bool
  | .str s => isAF s
  | _ => false
def kindW (w : Str) : Bool := decide (w = "both") || decide (w = "either") || decide (w = "to")
def shp : D → Bool
  | .tup (.str w :: args) => if w = "one" then args.isEmpty else if w = "atom" then (match args with | [x] => atomD x | _ => false) else kindW w && decide (args.length = 2)
  | _ => false
theorem P_atom (k : Nat) {n : Nat} {d : D} (h : oks n d = true) : Φ (k + 1) 0 [.val d] = .ok (.bl (atomD d)) [.val d] := by
  cases d with
  | non => simp [runB, sSeq, sSet, sFz, sLs, sCons, sNil, sTup, sVar, sC, sRet, sOp, sHn, sHv, res, look, opAdd, ofOpt, O.bind, O.bindS, startS, inSlot, LIM, outsAt, outOf, sIsi, isX, isT, tyN, isA, sItL, sItT, gT, gC, gN, gZ, sTru, tru, sIfS, sOrT, sAndT, sNotT, sB, sAnd, sOr, sNot, sIf, sUn, fLen, sCall, sACons, sAv, sAs, sANil, slots, argsOf, argOf, putBack, put1, sPart, sExpr, Φ, m_0, atomD]
  | bl b => simp [runB, sSeq, sSet, sFz, sLs, sCons, sNil, sTup, sVar, sC, sRet, sOp, sHn, sHv, res, look, opAdd, ofOpt, O.bind, O.bindS, startS, inSlot, LIM, outsAt, outOf, sIsi, isX, isT, tyN, isA, sItL, sItT, gT, gC, gN, gZ, sTru, tru, sIfS, sOrT, sAndT, sNotT, sB, sAnd, sOr, sNot, sIf, sUn, fLen, sCall, sACons, sAv, sAs, sANil, slots, argsOf, argOf, putBack, put1, sPart, sExpr, Φ, m_0, atomD]
  | int b => simp [runB, sSeq, sSet, sFz, sLs, sCons, sNil, sTup, sVar, sC, sRet, sOp, sHn, sHv, res, look, opAdd, ofOpt, O.bind, O.bindS, startS, inSlot, LIM, outsAt, outOf, sIsi, isX, isT, tyN, isA, sItL, sItT, gT, gC, gN, gZ, sTru, tru, sIfS, sOrT, sAndT, sNotT, sB, sAnd, sOr, sNot, sIf, sUn, fLen, sCall, sACons, sAv, sAs, sANil, slots, argsOf, argOf, putBack, put1, sPart, sExpr, Φ, m_0, atomD]
  | tup b => simp [runB, sSeq, sSet, sFz, sLs, sCons, sNil, sTup, sVar, sC, sRet, sOp, sHn, sHv, res, look, opAdd, ofOpt, O.bind, O.bindS, startS, inSlot, LIM, outsAt, outOf, sIsi, isX, isT, tyN, isA, sItL, sItT, gT, gC, gN, gZ, sTru, tru, sIfS, sOrT, sAndT, sNotT, sB, sAnd, sOr, sNot, sIf, sUn, fLen, sCall, sACons, sAv, sAs, sANil, slots, argsOf, argOf, putBack, put1, sPart, sExpr, Φ, m_0, atomD]
  | lst b => simp [runB, sSeq, sSet, sFz, sLs, sCons, sNil, sTup, sVar, sC, sRet, sOp, sHn, sHv, res, look, opAdd, ofOpt, O.bind, O.bindS, startS, inSlot, LIM, outsAt, outOf, sIsi, isX, isT, tyN, isA, sItL, sItT, gT, gC, gN, gZ, sTru, tru, sIfS, sOrT, sAndT, sNotT, sB, sAnd, sOr, sNot, sIf, sUn, fLen, sCall, sACons, sAv, sAs, sANil, slots, argsOf, argOf, putBack, put1, sPart, sExpr, Φ, m_0, atomD]
  | cls i => simp [oks] at h
  | fn i c => simp [oks] at h
  | exc c x => simp [oks] at h
  | err c x => simp [oks] at h
  | lam c => simp [oks] at h
  | str s =>
    have hs : sok s = true := by cases n <;> simpa only [oks] using h
    have h1 := sok_len hs
    by_cases h2 : s.length = 1
    · have e := af_in s h2
      have h2' : (s.length : Int) = 1 := by omega
      simp [runB, sSeq, sSet, sFz, sLs, sCons, sNil, sTup, sVar, sC, sRet, sOp, sHn, sHv, res, look, opAdd, ofOpt, O.bind, O.bindS, startS, inSlot, LIM, outsAt, outOf, sIsi, isX, isT, tyN, isA, sItL, sItT, gT, gC, gN, gZ, sTru, tru, sIfS, sOrT, sAndT, sNotT, sB, sAnd, sOr, sNot, sIf, sUn, fLen, sCall, sACons, sAv, sAs, sANil, slots, argsOf, argOf, putBack, put1, sPart, sExpr, Φ, m_0, atomD, h1, cEq, ok, deq, h2, cIn, inD, e]
    · have h2' : ((s.length : Int) == 1) = false := beq_eq_false_iff_ne.mpr (by omega)
      have e : isAF s = false := by
        cases e : isAF s with
        | false => rfl
        | true => exact absurd (af_one e) h2
      have h3 : ¬ ((s.length : Int) = 1) := by omega
      simp [runB, sSeq, sSet, sFz, sLs, sCons, sNil, sTup, sVar, sC, sRet, sOp, sHn, sHv, res, look, opAdd, ofOpt, O.bind, O.bindS, startS, inSlot, LIM, outsAt, outOf, sIsi, isX, isT, tyN, isA, sItL, sItT, gT, gC, gN, gZ, sTru, tru, sIfS, sOrT, sAndT, sNotT, sB, sAnd, sOr, sNot, sIf, sUn, fLen, sCall, sACons, sAv, sAs, sANil, slots, argsOf, argOf, putBack, put1, sPart, sExpr, Φ, m_0, atomD, h1, cEq, ok, deq, h2', e, h3]
theorem P_shape (k : Nat) {d : D} (h : oks 199 d = true) : Φ (k + 2) 1 [.val d] = .ok (.bl (shp d)) [.val d] := by
  show runB 1 1 (m_1 (Φ (k + 1))) _ = _
  cases d with
  | non => simp [runB, sSeq, sSet, sFz, sLs, sCons, sNil, sTup, sVar, sC, sRet, sOp, sHn, sHv, res, look, opAdd, ofOpt, O.bind, O.bindS, startS, inSlot, LIM, outsAt, outOf, sIsi, isX, isT, tyN, isA, sItL, sItT, gT, gC, gN, gZ, sTru, tru, sIfS, sOrT, sAndT, sNotT, sB, sAnd, sOr, sNot, sIf, sUn, fLen, sCall, sACons, sAv, sAs, sANil, slots, argsOf, argOf, putBack, put1, sPart, sExpr, m_1, shp]
  | bl b => simp [runB, sSeq, sSet, sFz, sLs, sCons, sNil, sTup, sVar, sC, sRet, sOp, sHn, sHv, res, look, opAdd, ofOpt, O.bind, O.bindS, startS, inSlot, LIM, outsAt, outOf, sIsi, isX, isT, tyN, isA, sItL, sItT, gT, gC, gN, gZ, sTru, tru, sIfS, sOrT, sAndT, sNotT, sB, sAnd, sOr, sNot, sIf, sUn, fLen, sCall, sACons, sAv, sAs, sANil, slots, argsOf, argOf, putBack, put1, sPart, sExpr, m_1, shp]
  | int b => simp [runB, sSeq, sSet, sFz, sLs, sCons, sNil, sTup, sVar, sC, sRet, sOp, sHn, sHv, res, look, opAdd, ofOpt, O.bind, O.bindS, startS, inSlot, LIM, outsAt, outOf, sIsi, isX, isT, tyN, isA, sItL, sItT, gT, gC, gN, gZ, sTru, tru, sIfS, sOrT, sAndT, sNotT, sB, sAnd, sOr, sNot, sIf, sUn, fLen, sCall, sACons, sAv, sAs, sANil, slots, argsOf, argOf, putBack, put1, sPart, sExpr, m_1, shp]
  | str b => simp [runB, sSeq, sSet, sFz, sLs, sCons, sNil, sTup, sVar, sC, sRet, sOp, sHn, sHv, res, look, opAdd, ofOpt, O.bind, O.bindS, startS, inSlot, LIM, outsAt, outOf, sIsi, isX, isT, tyN, isA, sItL, sItT, gT, gC, gN, gZ, sTru, tru, sIfS, sOrT, sAndT, sNotT, sB, sAnd, sOr, sNot, sIf, sUn, fLen, sCall, sACons, sAv, sAs, sANil, slots, argsOf, argOf, putBack, put1, sPart, sExpr, m_1, shp]
  | lst b => simp [runB, sSeq, sSet, sFz, sLs, sCons, sNil, sTup, sVar, sC, sRet, sOp, sHn, sHv, res, look, opAdd, ofOpt, O.bind, O.bindS, startS, inSlot, LIM, outsAt, outOf, sIsi, isX, isT, tyN, isA, sItL, sItT, gT, gC, gN, gZ, sTru, tru, sIfS, sOrT, sAndT, sNotT, sB, sAnd, sOr, sNot, sIf, sUn, fLen, sCall, sACons, sAv, sAs, sANil, slots, argsOf, argOf, putBack, put1, sPart, sExpr, m_1, shp]
  | cls i => simp [oks] at h
  | fn i c => simp [oks] at h
  | exc c x => simp [oks] at h
  | err c x => simp [oks] at h
  | lam c => simp [oks] at h
  | tup ds =>
    cases ds with
    | nil => simp [runB, sSeq, sSet, sFz, sLs, sCons, sNil, sTup, sVar, sC, sRet, sOp, sHn, sHv, res, look, opAdd, ofOpt, O.bind, O.bindS, startS, inSlot, LIM, outsAt, outOf, sIsi, isX, isT, tyN, isA, sItL, sItT, gT, gC, gN, gZ, sTru, tru, sIfS, sOrT, sAndT, sNotT, sB, sAnd, sOr, sNot, sIf, sUn, fLen, sCall, sACons, sAv, sAs, sANil, slots, argsOf, argOf, putBack, put1, sPart, sExpr, m_1, shp, cEq, ok, deq]
    | cons x args =>
      have nz : ¬ ((args.length : Int) + 1 = 0) := by omega
      cases x with
      | non => simp [runB, sSeq, sSet, sFz, sLs, sCons, sNil, sTup, sVar, sC, sRet, sOp, sHn, sHv, res, look, opAdd, ofOpt, O.bind, O.bindS, startS, inSlot, LIM, outsAt, outOf, sIsi, isX, isT, tyN, isA, sItL, sItT, gT, gC, gN, gZ, sTru, tru, sIfS, sOrT, sAndT, sNotT, sB, sAnd, sOr, sNot, sIf, sUn, fLen, sCall, sACons, sAv, sAs, sANil, slots, argsOf, argOf, putBack, put1, sPart, sExpr, m_1, shp, cEq, ok, deq, nz, opIx, atI, ixN]
      | bl b => simp [runB, sSeq, sSet, sFz, sLs, sCons, sNil, sTup, sVar, sC, sRet, sOp, sHn, sHv, res, look, opAdd, ofOpt, O.bind, O.bindS, startS, inSlot, LIM, outsAt, outOf, sIsi, isX, isT, tyN, isA, sItL, sItT, gT, gC, gN, gZ, sTru, tru, sIfS, sOrT, sAndT, sNotT, sB, sAnd, sOr, sNot, sIf, sUn, fLen, sCall, sACons, sAv, sAs, sANil, slots, argsOf, argOf, putBack, put1, sPart, sExpr, m_1, shp, cEq, ok, deq, nz, opIx, atI, ixN]
      | int b => simp [runB, sSeq, sSet, sFz, sLs, sCons, sNil, sTup, sVar, sC, sRet, sOp, sHn, sHv, res, look, opAdd, ofOpt, O.bind, O.bindS, startS, inSlot, LIM, outsAt, outOf, sIsi, isX, isT, tyN, isA, sItL, sItT, gT, gC, gN, gZ, sTru, tru, sIfS, sOrT, sAndT, sNotT, sB, sAnd, sOr, sNot, sIf, sUn, fLen, sCall, sACons, sAv, sAs, sANil, slots, argsOf, argOf, putBack, put1, sPart, sExpr, m_1, shp, cEq, ok, deq, nz, opIx, atI, ixN]
      | lst b => simp [runB, sSeq, sSet, sFz, sLs, sCons, sNil, sTup, sVar, sC, sRet, sOp, sHn, sHv, res, look, opAdd, ofOpt, O.bind, O.bindS, startS, inSlot, LIM, outsAt, outOf, sIsi, isX, isT, tyN, isA, sItL, sItT, gT, gC, gN, gZ, sTru, tru, sIfS, sOrT, sAndT, sNotT, sB, sAnd, sOr, sNot, sIf, sUn, fLen, sCall, sACons, sAv, sAs, sANil, slots, argsOf, argOf, putBack, put1, sPart, sExpr, m_1, shp, cEq, ok, deq, nz, opIx, atI, ixN]
      | tup b => simp [runB, sSeq, sSet, sFz, sLs, sCons, sNil, sTup, sVar, sC, sRet, sOp, sHn, sHv, res, look, opAdd, ofOpt, O.bind, O.bindS, startS, inSlot, LIM, outsAt, outOf, sIsi, isX, isT, tyN, isA, sItL, sItT, gT, gC, gN, gZ, sTru, tru, sIfS, sOrT, sAndT, sNotT, sB, sAnd, sOr, sNot, sIf, sUn, fLen, sCall, sACons, sAv, sAs, sANil, slots, argsOf, argOf, putBack, put1, sPart, sExpr, m_1, shp, cEq, ok, deq, nz, opIx, atI, ixN]
      | cls i => simp [oks, oksL] at h
      | fn i c => simp [oks, oksL] at h
      | exc c x => simp [oks, oksL] at h
      | err c x => simp [oks, oksL] at h
      | lam c => simp [oks, oksL] at h
      | str v =>
        have hv : PyData.strOk v = true := by
          have := oks_down h _ List.mem_cons_self
          exact sok_ok (by simpa only [oks] using this)
        by_cases h1 : v = "one"
        · subst h1
          cases args with
          | nil => simp [runB, sSeq, sSet, sFz, sLs, sCons, sNil, sTup, sVar, sC, sRet, sOp, sHn, sHv, res, look, opAdd, ofOpt, O.bind, O.bindS, startS, inSlot, LIM, outsAt, outOf, sIsi, isX, isT, tyN, isA, sItL, sItT, gT, gC, gN, gZ, sTru, tru, sIfS, sOrT, sAndT, sNotT, sB, sAnd, sOr, sNot, sIf, sUn, fLen, sCall, sACons, sAv, sAs, sANil, slots, argsOf, argOf, putBack, put1, sPart, sExpr, m_1, shp, cEq, ok, okL, deq, opIx, atI, ixN, cNotIn, inD, kd_KINDS, dl_KINDS]
          | cons y r =>
            have n1 : ¬ ((r.length : Int) + 1 + 1 = 1) := by omega
            have n3 : ¬ ((r.length : Int) + 1 + 1 = 0) := by omega
            have n4 : 0 < (r.length : Int) + 1 + 1 := by omega
            simp [runB, sSeq, sSet, sFz, sLs, sCons, sNil, sTup, sVar, sC, sRet, sOp, sHn, sHv, res, look, opAdd, ofOpt, O.bind, O.bindS, startS, inSlot, LIM, outsAt, outOf, sIsi, isX, isT, tyN, isA, sItL, sItT, gT, gC, gN, gZ, sTru, tru, sIfS, sOrT, sAndT, sNotT, sB, sAnd, sOr, sNot, sIf, sUn, fLen, sCall, sACons, sAv, sAs, sANil, slots, argsOf, argOf, putBack, put1, sPart, sExpr, m_1, shp, cEq, ok, okL, deq, opIx, atI, ixN, cNotIn, inD, kd_KINDS, dl_KINDS, n1, n3, n4]
        · by_cases h2 : v = "atom"
          · subst h2
            match args with
            | [] => simp [runB, sSeq, sSet, sFz, sLs, sCons, sNil, sTup, sVar, sC, sRet, sOp, sHn, sHv, res, look, opAdd, ofOpt, O.bind, O.bindS, startS, inSlot, LIM, outsAt, outOf, sIsi, isX, isT, tyN, isA, sItL, sItT, gT, gC, gN, gZ, sTru, tru, sIfS, sOrT, sAndT, sNotT, sB, sAnd, sOr, sNot, sIf, sUn, fLen, sCall, sACons, sAv, sAs, sANil, slots, argsOf, argOf, putBack, put1, sPart, sExpr, m_1, shp, cEq, ok, okL, deq, opIx, atI, ixN, cNotIn, inD, kd_KINDS, dl_KINDS]
            | [y] =>
              have e := P_atom k (oks_down h y (by simp))
              simp [runB, sSeq, sSet, sFz, sLs, sCons, sNil, sTup, sVar, sC, sRet, sOp, sHn, sHv, res, look, opAdd, ofOpt, O.bind, O.bindS, startS, inSlot, LIM, outsAt, outOf, sIsi, isX, isT, tyN, isA, sItL, sItT, gT, gC, gN, gZ, sTru, tru, sIfS, sOrT, sAndT, sNotT, sB, sAnd, sOr, sNot, sIf, sUn, fLen, sCall, sACons, sAv, sAs, sANil, slots, argsOf, argOf, putBack, put1, sPart, sExpr, m_1, shp, cEq, ok, okL, deq, opIx, atI, ixN, cNotIn, inD, kd_KINDS, dl_KINDS, e]
            | y :: z :: r =>
              have n2 : ((r.length : Int) + 1 + 1 + 1 == 2) = false := beq_eq_false_iff_ne.mpr (by omega)
              have n3 : ¬ ((r.length : Int) + 1 + 1 + 1 = 0) := by omega
              have n4 : 0 < (r.length : Int) + 1 + 1 + 1 := by omega
              simp [runB, sSeq, sSet, sFz, sLs, sCons, sNil, sTup, sVar, sC, sRet, sOp, sHn, sHv, res, look, opAdd, ofOpt, O.bind, O.bindS, startS, inSlot, LIM, outsAt, outOf, sIsi, isX, isT, tyN, isA, sItL, sItT, gT, gC, gN, gZ, sTru, tru, sIfS, sOrT, sAndT, sNotT, sB, sAnd, sOr, sNot, sIf, sUn, fLen, sCall, sACons, sAv, sAs, sANil, slots, argsOf, argOf, putBack, put1, sPart, sExpr, m_1, shp, cEq, ok, okL, deq, opIx, atI, ixN, cNotIn, inD, kd_KINDS, dl_KINDS, n2, n3, n4]
          · have i : ∀ b : Bool, (((args.length : Int) + 1 == 3) = b) → decide (args.length = 2) = b := fun b e => by
              rw [← e]
              by_cases q : args.length = 2
              · rw [q]; rfl
              · rw [decide_eq_false q]
                exact (beq_eq_false_iff_ne.mpr (by omega)).symm
            have j := i _ rfl
            by_cases h3 : kindW v = true
            · have h4 : v = "both" ∨ v = "either" ∨ v = "to" := by simpa [kindW, or_assoc] using h3
              rcases h4 with rfl | rfl | rfl <;> simp [runB, sSeq, sSet, sFz, sLs, sCons, sNil, sTup, sVar, sC, sRet, sOp, sHn, sHv, res, look, opAdd, ofOpt, O.bind, O.bindS, startS, inSlot, LIM, outsAt, outOf, sIsi, isX, isT, tyN, isA, sItL, sItT, gT, gC, gN, gZ, sTru, tru, sIfS, sOrT, sAndT, sNotT, sB, sAnd, sOr, sNot, sIf, sUn, fLen, sCall, sACons, sAv, sAs, sANil, slots, argsOf, argOf, putBack, put1, sPart, sExpr, m_1, shp, cEq, ok, okL, deq, nz, opIx, atI, ixN, cNotIn, inD, kd_KINDS, dl_KINDS, j, kindW]
            · have h4 : ¬ v = "both" ∧ ¬ v = "either" ∧ ¬ v = "to" := by simpa [kindW, not_or, and_assoc] using h3
              obtain ⟨h5, h6, h7⟩ := h4
              have q1 : ¬ ("atom" : Str) = v := fun z => h2 z.symm
              have q2 : ¬ ("one" : Str) = v := fun z => h1 z.symm
              have q3 : ¬ ("both" : Str) = v := fun z => h5 z.symm
              have q4 : ¬ ("either" : Str) = v := fun z => h6 z.symm
              have q5 : ¬ ("to" : Str) = v := fun z => h7 z.symm
              have h3' : kindW v = false := by simpa using h3
              simp [runB, sSeq, sSet, sFz, sLs, sCons, sNil, sTup, sVar, sC, sRet, sOp, sHn, sHv, res, look, opAdd, ofOpt, O.bind, O.bindS, startS, inSlot, LIM, outsAt, outOf, sIsi, isX, isT, tyN, isA, sItL, sItT, gT, gC, gN, gZ, sTru, tru, sIfS, sOrT, sAndT, sNotT, sB, sAnd, sOr, sNot, sIf, sUn, fLen, sCall, sACons, sAv, sAs, sANil, slots, argsOf, argOf, putBack, put1, sPart, sExpr, m_1, shp, cEq, ok, okL, deq, nz, opIx, atI, ixN, cNotIn, inD, kd_KINDS, dl_KINDS, hv, h1, h2, h3', q1, q2, q3, q4, q5]
theorem Q_shape (k : Nat) {d : D} (h : oks 199 d = true) : Φ (k + 1) 18 [.val d] = .ok (.bl (shp d)) [.val d] := by
  show runB 1 1 (m_18 (Φ k)) _ = _
  have ho := oks_ok h
  cases d with
  | non => simp [runB, sSeq, sSet, sFz, sLs, sCons, sNil, sTup, sVar, sC, sRet, sOp, sHn, sHv, res, look, opAdd, ofOpt, O.bind, O.bindS, startS, inSlot, LIM, outsAt, outOf, sIsi, isX, isT, tyN, isA, sItL, sItT, gT, gC, gN, gZ, sTru, tru, sIfS, sOrT, sAndT, sNotT, sB, sAnd, sOr, sNot, sIf, sUn, fLen, sCall, sACons, sAv, sAs, sANil, slots, argsOf, argOf, putBack, put1, sPart, sExpr, m_18, shp]
  | bl b => simp [runB, sSeq, sSet, sFz, sLs, sCons, sNil, sTup, sVar, sC, sRet, sOp, sHn, sHv, res, look, opAdd, ofOpt, O.bind, O.bindS, startS, inSlot, LIM, outsAt, outOf, sIsi, isX, isT, tyN, isA, sItL, sItT, gT, gC, gN, gZ, sTru, tru, sIfS, sOrT, sAndT, sNotT, sB, sAnd, sOr, sNot, sIf, sUn, fLen, sCall, sACons, sAv, sAs, sANil, slots, argsOf, argOf, putBack, put1, sPart, sExpr, m_18, shp]
  | int b => simp [runB, sSeq, sSet, sFz, sLs, sCons, sNil, sTup, sVar, sC, sRet, sOp, sHn, sHv, res, look, opAdd, ofOpt, O.bind, O.bindS, startS, inSlot, LIM, outsAt, outOf, sIsi, isX, isT, tyN, isA, sItL, sItT, gT, gC, gN, gZ, sTru, tru, sIfS, sOrT, sAndT, sNotT, sB, sAnd, sOr, sNot, sIf, sUn, fLen, sCall, sACons, sAv, sAs, sANil, slots, argsOf, argOf, putBack, put1, sPart, sExpr, m_18, shp]
  | str b => simp [runB, sSeq, sSet, sFz, sLs, sCons, sNil, sTup, sVar, sC, sRet, sOp, sHn, sHv, res, look, opAdd, ofOpt, O.bind, O.bindS, startS, inSlot, LIM, outsAt, outOf, sIsi, isX, isT, tyN, isA, sItL, sItT, gT, gC, gN, gZ, sTru, tru, sIfS, sOrT, sAndT, sNotT, sB, sAnd, sOr, sNot, sIf, sUn, fLen, sCall, sACons, sAv, sAs, sANil, slots, argsOf, argOf, putBack, put1, sPart, sExpr, m_18, shp]
  | lst b => simp [runB, sSeq, sSet, sFz, sLs, sCons, sNil, sTup, sVar, sC, sRet, sOp, sHn, sHv, res, look, opAdd, ofOpt, O.bind, O.bindS, startS, inSlot, LIM, outsAt, outOf, sIsi, isX, isT, tyN, isA, sItL, sItT, gT, gC, gN, gZ, sTru, tru, sIfS, sOrT, sAndT, sNotT, sB, sAnd, sOr, sNot, sIf, sUn, fLen, sCall, sACons, sAv, sAs, sANil, slots, argsOf, argOf, putBack, put1, sPart, sExpr, m_18, shp]
  | cls i => simp [oks] at h
  | fn i c => simp [oks] at h
  | exc c x => simp [oks] at h
  | err c x => simp [oks] at h
  | lam c => simp [oks] at h
  | tup ds =>
    have ho := ok_mono (show 199 ≤ 200 by decide) ho
    cases ds with
    | nil => simp [runB, sSeq, sSet, sFz, sLs, sCons, sNil, sTup, sVar, sC, sRet, sOp, sHn, sHv, res, look, opAdd, ofOpt, O.bind, O.bindS, startS, inSlot, LIM, outsAt, outOf, sIsi, isX, isT, tyN, isA, sItL, sItT, gT, gC, gN, gZ, sTru, tru, sIfS, sOrT, sAndT, sNotT, sB, sAnd, sOr, sNot, sIf, sUn, fLen, sCall, sACons, sAv, sAs, sANil, slots, argsOf, argOf, putBack, put1, sPart, sExpr, m_18, shp, cEq, ok, okL, deq, deqL]
    | cons x args =>
      have c0 : cEq (.tup (x :: args)) (.tup []) = some (.bl false) := by unfold cEq; rw [ho]; simp [ok, okL, deq, deqL]
      cases x with
      | non => simp [runB, sSeq, sSet, sFz, sLs, sCons, sNil, sTup, sVar, sC, sRet, sOp, sHn, sHv, res, look, opAdd, ofOpt, O.bind, O.bindS, startS, inSlot, LIM, outsAt, outOf, sIsi, isX, isT, tyN, isA, sItL, sItT, gT, gC, gN, gZ, sTru, tru, sIfS, sOrT, sAndT, sNotT, sB, sAnd, sOr, sNot, sIf, sUn, fLen, sCall, sACons, sAv, sAs, sANil, slots, argsOf, argOf, putBack, put1, sPart, sExpr, m_18, shp, c0, opIx, atI, ixN]
      | bl b => simp [runB, sSeq, sSet, sFz, sLs, sCons, sNil, sTup, sVar, sC, sRet, sOp, sHn, sHv, res, look, opAdd, ofOpt, O.bind, O.bindS, startS, inSlot, LIM, outsAt, outOf, sIsi, isX, isT, tyN, isA, sItL, sItT, gT, gC, gN, gZ, sTru, tru, sIfS, sOrT, sAndT, sNotT, sB, sAnd, sOr, sNot, sIf, sUn, fLen, sCall, sACons, sAv, sAs, sANil, slots, argsOf, argOf, putBack, put1, sPart, sExpr, m_18, shp, c0, opIx, atI, ixN]
      | int b => simp [runB, sSeq, sSet, sFz, sLs, sCons, sNil, sTup, sVar, sC, sRet, sOp, sHn, sHv, res, look, opAdd, ofOpt, O.bind, O.bindS, startS, inSlot, LIM, outsAt, outOf, sIsi, isX, isT, tyN, isA, sItL, sItT, gT, gC, gN, gZ, sTru, tru, sIfS, sOrT, sAndT, sNotT, sB, sAnd, sOr, sNot, sIf, sUn, fLen, sCall, sACons, sAv, sAs, sANil, slots, argsOf, argOf, putBack, put1, sPart, sExpr, m_18, shp, c0, opIx, atI, ixN]
      | lst b => simp [runB, sSeq, sSet, sFz, sLs, sCons, sNil, sTup, sVar, sC, sRet, sOp, sHn, sHv, res, look, opAdd, ofOpt, O.bind, O.bindS, startS, inSlot, LIM, outsAt, outOf, sIsi, isX, isT, tyN, isA, sItL, sItT, gT, gC, gN, gZ, sTru, tru, sIfS, sOrT, sAndT, sNotT, sB, sAnd, sOr, sNot, sIf, sUn, fLen, sCall, sACons, sAv, sAs, sANil, slots, argsOf, argOf, putBack, put1, sPart, sExpr, m_18, shp, c0, opIx, atI, ixN]
      | tup b => simp [runB, sSeq, sSet, sFz, sLs, sCons, sNil, sTup, sVar, sC, sRet, sOp, sHn, sHv, res, look, opAdd, ofOpt, O.bind, O.bindS, startS, inSlot, LIM, outsAt, outOf, sIsi, isX, isT, tyN, isA, sItL, sItT, gT, gC, gN, gZ, sTru, tru, sIfS, sOrT, sAndT, sNotT, sB, sAnd, sOr, sNot, sIf, sUn, fLen, sCall, sACons, sAv, sAs, sANil, slots, argsOf, argOf, putBack, put1, sPart, sExpr, m_18, shp, c0, opIx, atI, ixN]
      | cls i => simp [oks, oksL] at h
      | fn i c => simp [oks, oksL] at h
      | exc c x => simp [oks, oksL] at h
      | err c x => simp [oks, oksL] at h
      | lam c => simp [oks, oksL] at h
      | str v =>
        have hv : PyData.strOk v = true := by
          have := oks_down h _ List.mem_cons_self
          exact sok_ok (by simpa only [oks] using this)
        have nz : ¬ ((args.length : Int) + 1 = 0) := by omega
        by_cases h1 : v = "one"
        · subst h1
          cases args with
          | nil => simp [runB, sSeq, sSet, sFz, sLs, sCons, sNil, sTup, sVar, sC, sRet, sOp, sHn, sHv, res, look, opAdd, ofOpt, O.bind, O.bindS, startS, inSlot, LIM, outsAt, outOf, sIsi, isX, isT, tyN, isA, sItL, sItT, gT, gC, gN, gZ, sTru, tru, sIfS, sOrT, sAndT, sNotT, sB, sAnd, sOr, sNot, sIf, sUn, fLen, sCall, sACons, sAv, sAs, sANil, slots, argsOf, argOf, putBack, put1, sPart, sExpr, m_18, shp, c0, ces, cei, opIx, atI, ixN]
          | cons y r =>
            have n4 : 0 < (r.length : Int) + 1 + 1 := by omega
            have n1 : ((r.length : Int) + 1 + 1 == 1) = false := beq_eq_false_iff_ne.mpr (by omega)
            simp [runB, sSeq, sSet, sFz, sLs, sCons, sNil, sTup, sVar, sC, sRet, sOp, sHn, sHv, res, look, opAdd, ofOpt, O.bind, O.bindS, startS, inSlot, LIM, outsAt, outOf, sIsi, isX, isT, tyN, isA, sItL, sItT, gT, gC, gN, gZ, sTru, tru, sIfS, sOrT, sAndT, sNotT, sB, sAnd, sOr, sNot, sIf, sUn, fLen, sCall, sACons, sAv, sAs, sANil, slots, argsOf, argOf, putBack, put1, sPart, sExpr, m_18, shp, c0, ces, cei, opIx, atI, ixN, n1, n4]
        · by_cases h2 : v = "atom"
          · subst h2
            match args with
            | [] => simp [runB, sSeq, sSet, sFz, sLs, sCons, sNil, sTup, sVar, sC, sRet, sOp, sHn, sHv, res, look, opAdd, ofOpt, O.bind, O.bindS, startS, inSlot, LIM, outsAt, outOf, sIsi, isX, isT, tyN, isA, sItL, sItT, gT, gC, gN, gZ, sTru, tru, sIfS, sOrT, sAndT, sNotT, sB, sAnd, sOr, sNot, sIf, sUn, fLen, sCall, sACons, sAv, sAs, sANil, slots, argsOf, argOf, putBack, put1, sPart, sExpr, m_18, shp, c0, ces, cei, opIx, atI, ixN]
            | [y] =>
              have hy := oks_down h y (by simp)
              cases y with
              | non => simp [runB, sSeq, sSet, sFz, sLs, sCons, sNil, sTup, sVar, sC, sRet, sOp, sHn, sHv, res, look, opAdd, ofOpt, O.bind, O.bindS, startS, inSlot, LIM, outsAt, outOf, sIsi, isX, isT, tyN, isA, sItL, sItT, gT, gC, gN, gZ, sTru, tru, sIfS, sOrT, sAndT, sNotT, sB, sAnd, sOr, sNot, sIf, sUn, fLen, sCall, sACons, sAv, sAs, sANil, slots, argsOf, argOf, putBack, put1, sPart, sExpr, m_18, shp, c0, ces, cei, opIx, atI, ixN, atomD]
              | bl b => simp [runB, sSeq, sSet, sFz, sLs, sCons, sNil, sTup, sVar, sC, sRet, sOp, sHn, sHv, res, look, opAdd, ofOpt, O.bind, O.bindS, startS, inSlot, LIM, outsAt, outOf, sIsi, isX, isT, tyN, isA, sItL, sItT, gT, gC, gN, gZ, sTru, tru, sIfS, sOrT, sAndT, sNotT, sB, sAnd, sOr, sNot, sIf, sUn, fLen, sCall, sACons, sAv, sAs, sANil, slots, argsOf, argOf, putBack, put1, sPart, sExpr, m_18, shp, c0, ces, cei, opIx, atI, ixN, atomD]
              | int b => simp [runB, sSeq, sSet, sFz, sLs, sCons, sNil, sTup, sVar, sC, sRet, sOp, sHn, sHv, res, look, opAdd, ofOpt, O.bind, O.bindS, startS, inSlot, LIM, outsAt, outOf, sIsi, isX, isT, tyN, isA, sItL, sItT, gT, gC, gN, gZ, sTru, tru, sIfS, sOrT, sAndT, sNotT, sB, sAnd, sOr, sNot, sIf, sUn, fLen, sCall, sACons, sAv, sAs, sANil, slots, argsOf, argOf, putBack, put1, sPart, sExpr, m_18, shp, c0, ces, cei, opIx, atI, ixN, atomD]
              | tup b => simp [runB, sSeq, sSet, sFz, sLs, sCons, sNil, sTup, sVar, sC, sRet, sOp, sHn, sHv, res, look, opAdd, ofOpt, O.bind, O.bindS, startS, inSlot, LIM, outsAt, outOf, sIsi, isX, isT, tyN, isA, sItL, sItT, gT, gC, gN, gZ, sTru, tru, sIfS, sOrT, sAndT, sNotT, sB, sAnd, sOr, sNot, sIf, sUn, fLen, sCall, sACons, sAv, sAs, sANil, slots, argsOf, argOf, putBack, put1, sPart, sExpr, m_18, shp, c0, ces, cei, opIx, atI, ixN, atomD]
              | lst b => simp [runB, sSeq, sSet, sFz, sLs, sCons, sNil, sTup, sVar, sC, sRet, sOp, sHn, sHv, res, look, opAdd, ofOpt, O.bind, O.bindS, startS, inSlot, LIM, outsAt, outOf, sIsi, isX, isT, tyN, isA, sItL, sItT, gT, gC, gN, gZ, sTru, tru, sIfS, sOrT, sAndT, sNotT, sB, sAnd, sOr, sNot, sIf, sUn, fLen, sCall, sACons, sAv, sAs, sANil, slots, argsOf, argOf, putBack, put1, sPart, sExpr, m_18, shp, c0, ces, cei, opIx, atI, ixN, atomD]
              | cls i => simp [oks] at hy
              | fn i c => simp [oks] at hy
              | exc c x => simp [oks] at hy
              | err c x => simp [oks] at hy
              | lam c => simp [oks] at hy
              | str s =>
                have hs : sok s = true := by simpa only [oks] using hy
                have l1 := sok_len hs
                by_cases l2 : s.length = 1
                · have e := (af_le s l2).symm
                  by_cases q : s.cps.toList < ("a" : Str).cps.toList
                  · simp [runB, sSeq, sSet, sFz, sLs, sCons, sNil, sTup, sVar, sC, sRet, sOp, sHn, sHv, res, look, opAdd, ofOpt, O.bind, O.bindS, startS, inSlot, LIM, outsAt, outOf, sIsi, isX, isT, tyN, isA, sItL, sItT, gT, gC, gN, gZ, sTru, tru, sIfS, sOrT, sAndT, sNotT, sB, sAnd, sOr, sNot, sIf, sUn, fLen, sCall, sACons, sAv, sAs, sANil, slots, argsOf, argOf, putBack, put1, sPart, sExpr, m_18, shp, c0, ces, cei, opIx, atI, ixN, atomD, l1, l2, e, sChain, cLe, q]
                  · simp [runB, sSeq, sSet, sFz, sLs, sCons, sNil, sTup, sVar, sC, sRet, sOp, sHn, sHv, res, look, opAdd, ofOpt, O.bind, O.bindS, startS, inSlot, LIM, outsAt, outOf, sIsi, isX, isT, tyN, isA, sItL, sItT, gT, gC, gN, gZ, sTru, tru, sIfS, sOrT, sAndT, sNotT, sB, sAnd, sOr, sNot, sIf, sUn, fLen, sCall, sACons, sAv, sAs, sANil, slots, argsOf, argOf, putBack, put1, sPart, sExpr, m_18, shp, c0, ces, cei, opIx, atI, ixN, atomD, l1, l2, e, sChain, cLe, q]
                · have l3 : ((s.length : Int) == 1) = false := beq_eq_false_iff_ne.mpr (by omega)
                  have e : isAF s = false := by
                    cases e : isAF s with
                    | false => rfl
                    | true => exact absurd (af_one e) l2
                  simp [runB, sSeq, sSet, sFz, sLs, sCons, sNil, sTup, sVar, sC, sRet, sOp, sHn, sHv, res, look, opAdd, ofOpt, O.bind, O.bindS, startS, inSlot, LIM, outsAt, outOf, sIsi, isX, isT, tyN, isA, sItL, sItT, gT, gC, gN, gZ, sTru, tru, sIfS, sOrT, sAndT, sNotT, sB, sAnd, sOr, sNot, sIf, sUn, fLen, sCall, sACons, sAv, sAs, sANil, slots, argsOf, argOf, putBack, put1, sPart, sExpr, m_18, shp, c0, ces, cei, opIx, atI, ixN, atomD, l1, l3, e]
            | y :: z :: r =>
              have n2 : ((r.length : Int) + 1 + 1 + 1 == 2) = false := beq_eq_false_iff_ne.mpr (by omega)
              have n4 : 0 < (r.length : Int) + 1 + 1 + 1 := by omega
              simp [runB, sSeq, sSet, sFz, sLs, sCons, sNil, sTup, sVar, sC, sRet, sOp, sHn, sHv, res, look, opAdd, ofOpt, O.bind, O.bindS, startS, inSlot, LIM, outsAt, outOf, sIsi, isX, isT, tyN, isA, sItL, sItT, gT, gC, gN, gZ, sTru, tru, sIfS, sOrT, sAndT, sNotT, sB, sAnd, sOr, sNot, sIf, sUn, fLen, sCall, sACons, sAv, sAs, sANil, slots, argsOf, argOf, putBack, put1, sPart, sExpr, m_18, shp, c0, ces, cei, opIx, atI, ixN, n2, n4]
          · have i : ∀ b : Bool, (((args.length : Int) + 1 == 3) = b) → decide (args.length = 2) = b := fun b e => by
              rw [← e]
              by_cases q : args.length = 2
              · rw [q]; rfl
              · rw [decide_eq_false q]
                exact (beq_eq_false_iff_ne.mpr (by omega)).symm
            have j := i _ rfl
            have z1 : (v == "one") = false := beq_eq_false_iff_ne.mpr h1
            have z2 : (v == "atom") = false := beq_eq_false_iff_ne.mpr h2
            by_cases h3 : kindW v = true
            · have h4 : v = "both" ∨ v = "either" ∨ v = "to" := by simpa [kindW, or_assoc] using h3
              rcases h4 with rfl | rfl | rfl <;> simp [runB, sSeq, sSet, sFz, sLs, sCons, sNil, sTup, sVar, sC, sRet, sOp, sHn, sHv, res, look, opAdd, ofOpt, O.bind, O.bindS, startS, inSlot, LIM, outsAt, outOf, sIsi, isX, isT, tyN, isA, sItL, sItT, gT, gC, gN, gZ, sTru, tru, sIfS, sOrT, sAndT, sNotT, sB, sAnd, sOr, sNot, sIf, sUn, fLen, sCall, sACons, sAv, sAs, sANil, slots, argsOf, argOf, putBack, put1, sPart, sExpr, m_18, shp, c0, ces, cei, ok, okL, deq, nz, opIx, atI, ixN, cIn, inD, j, kindW]
            · have h4 : ¬ v = "both" ∧ ¬ v = "either" ∧ ¬ v = "to" := by simpa [kindW, not_or, and_assoc] using h3
              obtain ⟨h5, h6, h7⟩ := h4
              have q3 : (("both" : Str) == v) = false := beq_eq_false_iff_ne.mpr fun z => h5 z.symm
              have q4 : (("either" : Str) == v) = false := beq_eq_false_iff_ne.mpr fun z => h6 z.symm
              have q5 : (("to" : Str) == v) = false := beq_eq_false_iff_ne.mpr fun z => h7 z.symm
              have h3' : kindW v = false := by simpa using h3
              simp [runB, sSeq, sSet, sFz, sLs, sCons, sNil, sTup, sVar, sC, sRet, sOp, sHn, sHv, res, look, opAdd, ofOpt, O.bind, O.bindS, startS, inSlot, LIM, outsAt, outOf, sIsi, isX, isT, tyN, isA, sItL, sItT, gT, gC, gN, gZ, sTru, tru, sIfS, sOrT, sAndT, sNotT, sB, sAnd, sOr, sNot, sIf, sUn, fLen, sCall, sACons, sAv, sAs, sANil, slots, argsOf, argOf, putBack, put1, sPart, sExpr, m_18, shp, c0, ces, cei, ok, okL, deq, nz, opIx, atI, ixN, cIn, inD, hv, h1, h2, h3', q3, q4, q5, z1, z2]
end LW

set_option Elab.async false
set_option linter.all false
set_option maxRecDepth 100000
set_option maxHeartbeats 4000000
namespace LW
open PySem L2 TL
/-! ### going through a thing -/
def kids : D → List D → List (D × List D)
  | .tup [_, x, y], p => [(x, p ++ [.int 1]), (y, p ++ [.int 2])]
  | _, _ => []
def mach : Nat → List (D × List D) → Nat → Option (Option D)
  | 0, _, _ => none
  | _ + 1, [], _ => some none
  | f + 1, (d, p) :: r, s => if s = 60 then some (some (.str "size")) else if shp d = false ∨ 12 ≤ p.length then some (some (.tup p)) else mach f (kids d p ++ r) (s + 1)
theorem mach_some : ∀ (f : Nat) (st : List (D × List D)) (s : Nat), s ≤ 60 → 61 < f + s → ∃ o, mach f st s = some o
  | 0, _, s, h, h2 => by omega
  | f + 1, [], s, h, h2 => ⟨none, rfl⟩
  | f + 1, (d, p) :: r, s, h, h2 => by
    unfold mach
    split
    · exact ⟨_, rfl⟩
    · split
      · exact ⟨_, rfl⟩
      · exact mach_some f _ (s + 1) (by omega) (by omega)
def prq (q : D × List D) : D := .tup [q.1, .tup q.2]
/-- a thing on the way -/
def Okk (q : D × List D) : Prop := oks 150 q.1 = true ∧ Pth q.2
theorem Okk.ok {q : D × List D} (h : Okk q) : TL.ok 199 (prq q) = true := by
  simp only [prq, TL.ok, okL, Bool.and_true, Bool.and_eq_true]
  exact ⟨ok_mono (by decide) (oks_ok h.1), h.2.okL _⟩
theorem encs_ok {st : List (D × List D)} (h : ∀ q ∈ st, Okk q) : okL 199 (st.map prq) = true := by
  rw [okL_iff]
  intro x hx
  obtain ⟨q, hq, rfl⟩ := List.mem_map.mp hx
  exact (h q hq).ok
theorem encr_ok {st : List (D × List D)} (h : ∀ q ∈ st, Okk q) : okL 199 (st.map prq).reverse = true := by
  rw [okL_iff]
  intro x hx
  exact okL_iff.mp (encs_ok h) x (by simpa using hx)
theorem kids_okk {d : D} {p : List D} (h : Okk (d, p)) (hl : p.length < 12) : ∀ q ∈ kids d p, Okk q := by
  intro q hq
  unfold kids at hq
  split at hq
  · rename_i w x y
    have hd := oks_down h.1
    rcases List.mem_cons.mp hq with rfl | hq
    · exact ⟨hd x (by simp), h.2.snoc (i := 1) (by decide) (by show p.length < 200; omega)⟩
    · have := List.mem_singleton.mp hq; subst this
      exact ⟨hd y (by simp), h.2.snoc (i := 2) (by decide) (by show p.length < 200; omega)⟩
  · cases hq
theorem shp_cases {d : D} (h : shp d = true) : (∃ w, d = .tup [.str w]) ∨ (∃ w x, d = .tup [.str w, x]) ∨ ∃ w x y, d = .tup [.str w, x, y] := by
  unfold shp at h
  split at h
  · rename_i w args
    match args with
    | [] => exact .inl ⟨_, rfl⟩
    | [x] => exact .inr (.inl ⟨_, _, rfl⟩)
    | [x, y] => exact .inr (.inr ⟨_, _, _, rfl⟩)
    | x :: y :: z :: r => simp at h
  · cases h
theorem stepP_size (k : Nat) (th a b : Option SD) (E p : List D) (d : D) : lb_2_0 (Φ (k + 2)) [th, some (.own (.lst (E ++ [prq (d, p)]))), some (.val (.int 60)), a, b] = .rt (.lst [.str "size"]) [th, some (.own (.lst E)), some (.val (.int 60)), some (.val d), some (.val (.tup p))] := by
  simp [runB, sSeq, sSet, sFz, sLs, sCons, sNil, sTup, sVar, sC, sRet, sOp, sHn, sHv, res, look, opAdd, ofOpt, O.bind, O.bindS, startS, inSlot, LIM, outsAt, outOf, sIsi, isX, isT, tyN, isA, sItL, sItT, gT, gC, gN, gZ, sTru, tru, sIfS, sOrT, sAndT, sNotT, sB, sAnd, sOr, sNot, sIf, sUn, fLen, sCall, sACons, sAv, sAs, sANil, slots, argsOf, argOf, putBack, put1, sPart, sExpr, lb_2_0, prq, sAsg, sPop, curL, cEq, ok, deq]
theorem stepP_bad (k : Nat) (th a b : Option SD) (E p : List D) (d : D) (s : Nat) (ho : oks 150 d = true) (hs : s < 60) (hp : p.length ≤ 200) (hb : shp d = false ∨ 12 ≤ p.length) :
    lb_2_0 (Φ (k + 2)) [th, some (.own (.lst (E ++ [prq (d, p)]))), some (.val (.int s)), a, b] = .rt (.lst [.tup p]) [th, some (.own (.lst E)), some (.val (.int (s + 1))), some (.val d), some (.val (.tup p))] := by
  have e := P_shape k (oks_mono (by decide) ho)
  have n1 : ((s : Int) == 60) = false := beq_eq_false_iff_ne.mpr (by omega)
  cases hh : shp d with
  | false =>
    rw [hh] at e
    simp [runB, sSeq, sSet, sFz, sLs, sCons, sNil, sTup, sVar, sC, sRet, sOp, sHn, sHv, res, look, opAdd, ofOpt, O.bind, O.bindS, startS, inSlot, LIM, outsAt, outOf, sIsi, isX, isT, tyN, isA, sItL, sItT, gT, gC, gN, gZ, sTru, tru, sIfS, sOrT, sAndT, sNotT, sB, sAnd, sOr, sNot, sIf, sUn, fLen, sCall, sACons, sAv, sAs, sANil, slots, argsOf, argOf, putBack, put1, sPart, sExpr, lb_2_0, prq, sAsg, sPop, curL, sAugV, opIAdd, cei, cGe, n1, e]
  | true =>
    rw [hh] at e
    have h12 : 12 ≤ p.length := by
      rcases hb with h | h
      · rw [hh] at h; cases h
      · exact h
    have h3 : 12 ≤ (p.length : Int) := by omega
    simp [runB, sSeq, sSet, sFz, sLs, sCons, sNil, sTup, sVar, sC, sRet, sOp, sHn, sHv, res, look, opAdd, ofOpt, O.bind, O.bindS, startS, inSlot, LIM, outsAt, outOf, sIsi, isX, isT, tyN, isA, sItL, sItT, gT, gC, gN, gZ, sTru, tru, sIfS, sOrT, sAndT, sNotT, sB, sAnd, sOr, sNot, sIf, sUn, fLen, sCall, sACons, sAv, sAs, sANil, slots, argsOf, argOf, putBack, put1, sPart, sExpr, lb_2_0, prq, sAsg, sPop, curL, sAugV, opIAdd, cei, cGe, n1, e, h3]
theorem stepP_go (k : Nat) (th a b : Option SD) (E p : List D) (d : D) (s : Nat) (ho : oks 150 d = true) (hs : s < 60) (hE : E.length ≤ 10000) (hh : shp d = true) (hp : p.length < 12) :
    lb_2_0 (Φ (k + 2)) [th, some (.own (.lst (E ++ [prq (d, p)]))), some (.val (.int s)), a, b] = .nx [th, some (.own (.lst (E ++ ((kids d p).map prq).reverse))), some (.val (.int (s + 1))), some (.val d), some (.val (.tup p))] := by
  have e := P_shape k (oks_mono (by decide) ho)
  have n1 : ((s : Int) == 60) = false := beq_eq_false_iff_ne.mpr (by omega)
  rw [hh] at e
  have h3 : ¬ (12 ≤ (p.length : Int)) := by omega
  have h4 : p.length ≤ 16777215 := by omega
  have h5 : ¬ (16777215 < p.length) := by omega
  have h6 : E.length < 16777216 := by omega
  have h7 : E.length + 1 < 16777216 := by omega
  rcases shp_cases hh with ⟨w, rfl⟩ | ⟨w, x, rfl⟩ | ⟨w, x, y, rfl⟩
  · simp [runB, sSeq, sSet, sFz, sLs, sCons, sNil, sTup, sVar, sC, sRet, sOp, sHn, sHv, res, look, opAdd, ofOpt, O.bind, O.bindS, startS, inSlot, LIM, outsAt, outOf, sIsi, isX, isT, tyN, isA, sItL, sItT, gT, gC, gN, gZ, sTru, tru, sIfS, sOrT, sAndT, sNotT, sB, sAnd, sOr, sNot, sIf, sUn, fLen, sCall, sACons, sAv, sAs, sANil, slots, argsOf, argOf, putBack, put1, sPart, sExpr, lb_2_0, prq, kids, sAsg, sPop, curL, sAugV, opIAdd, cei, cGe, n1, e, h3]
  · simp [runB, sSeq, sSet, sFz, sLs, sCons, sNil, sTup, sVar, sC, sRet, sOp, sHn, sHv, res, look, opAdd, ofOpt, O.bind, O.bindS, startS, inSlot, LIM, outsAt, outOf, sIsi, isX, isT, tyN, isA, sItL, sItT, gT, gC, gN, gZ, sTru, tru, sIfS, sOrT, sAndT, sNotT, sB, sAnd, sOr, sNot, sIf, sUn, fLen, sCall, sACons, sAv, sAs, sANil, slots, argsOf, argOf, putBack, put1, sPart, sExpr, lb_2_0, prq, kids, sAsg, sPop, curL, sAugV, opIAdd, cei, cGe, n1, e, h3]
  · simp [runB, sSeq, sSet, sFz, sLs, sCons, sNil, sTup, sVar, sC, sRet, sOp, sHn, sHv, res, look, opAdd, ofOpt, O.bind, O.bindS, startS, inSlot, LIM, outsAt, outOf, sIsi, isX, isT, tyN, isA, sItL, sItT, gT, gC, gN, gZ, sTru, tru, sIfS, sOrT, sAndT, sNotT, sB, sAnd, sOr, sNot, sIf, sUn, fLen, sCall, sACons, sAv, sAs, sANil, slots, argsOf, argOf, putBack, put1, sPart, sExpr, lb_2_0, prq, kids, sAsg, sPop, curL, sAugV, opIAdd, cei, cGe, n1, e, h3, h4, h5, h6, h7, sApp, sStar, opIx, atI, ixN]
theorem runP (k : Nat) (th : Option SD) : ∀ (f g : Nat) (st : List (D × List D)) (s : Nat) (a b : Option SD) (o : Option D), (∀ q ∈ st, Okk q) → st.length + 2 * f ≤ 5000 → s ≤ 60 → mach f st s = some o →
    ∃ σ', sWhile (sB (sOp cNe (sHn 1) (sHv (sFz (sLs sNil))))) (lb_2_0 (Φ (k + 2))) (f + g) [th, some (.own (.lst (st.map prq).reverse)), some (.val (.int s)), a, b] = (match o with
      | none => .nx (th :: σ')
      | some r => .rt (.lst [r]) (th :: σ'))
  | 0, _, _, _, _, _, _, _, _, _, h => by cases h
  | f + 1, g, [], s, a, b, o, hk, hl, hs, h => by
    cases h
    refine ⟨[some (.own (.lst [])), some (.val (.int s)), a, b], ?_⟩
    rw [show f + 1 + g = (f + g) + 1 by omega]
    exact while_end (cond_t (E := []) rfl (by simp [okL]))
  | f + 1, g, (d, p) :: r, s, a, b, o, hk, hl, hs, h => by
    have k0 := hk _ List.mem_cons_self
    have cnd := cond_t (σ := [th, some (.own (.lst (((d, p) :: r).map prq).reverse)), some (.val (.int s)), a, b]) rfl (encr_ok hk)
    have ne : (!((((d, p) :: r).map prq).reverse).isEmpty) = true := by simp
    rw [ne] at cnd
    have er : (((d, p) :: r).map prq).reverse = (r.map prq).reverse ++ [prq (d, p)] := by simp
    rw [show f + 1 + g = (f + g) + 1 by omega]
    rw [er] at cnd ⊢
    unfold mach at h
    split at h
    · rename_i e60
      cases h
      subst e60
      exact ⟨_, while_rt cnd (stepP_size k th a b _ p d)⟩
    · rename_i n60
      split at h
      · rename_i hb
        cases h
        exact ⟨_, while_rt cnd (stepP_bad k th a b _ p d s k0.1 (by omega) k0.2.2 hb)⟩
      · rename_i hb
        have h1 : shp d = true := by
          cases e : shp d with
          | true => rfl
          | false => exact absurd (.inl e) hb
        have h2 : p.length < 12 := by
          rcases Nat.lt_or_ge p.length 12 with q | q
          · exact q
          · exact absurd (.inr q) hb
        have kl : (kids d p).length ≤ 2 := by unfold kids; split <;> simp
        simp only [List.length_cons] at hl
        obtain ⟨σ', e⟩ := runP k th f g (kids d p ++ r) (s + 1) (some (.val d)) (some (.val (.tup p))) o (fun q hq => by
          rcases List.mem_append.mp hq with hq | hq
          · exact kids_okk k0 h2 q hq
          · exact hk q (List.mem_cons_of_mem _ hq)) (by rw [List.length_append]; omega) (by omega) h
        refine ⟨σ', (while_go cnd (stepP_go k th a b _ p d s k0.1 (by omega) (by simp; omega) h1 h2)).trans ?_⟩
        rw [← e]
        congr 1
        simp [List.map_append]
/-- what is wrong with a thing -/
def wr (d : D) : Option D := (mach 62 [(d, [])] 0).getD none
theorem wr_eq (d : D) : mach 62 [(d, [])] 0 = some (wr d) := by
  obtain ⟨o, e⟩ := mach_some 62 [(d, [])] 0 (by decide) (by decide)
  unfold wr
  rw [e]; rfl
theorem P_wrong (k : Nat) {d : D} (h : oks 150 d = true) : Φ (k + 3) 2 [.val d] = .ok (.lst (wr d).toList) [.val d] := by
  obtain ⟨σ', e⟩ := runP k (some (.val d)) 62 2938 [(d, [])] 0 none none (wr d) (fun q hq => by
    have := List.mem_singleton.mp hq; subst this
    exact ⟨h, .nil⟩) (by simp) (by decide) (wr_eq d)
  have e : lw_2_0 (Φ (k + 2)) [some (.val d), some (.own (.lst [.tup [d, .tup []]])), some (.val (.int 0)), none, none] = _ := e
  show runB 5 1 (m_2 (Φ (k + 2))) _ = _
  cases hw : wr d with
  | none =>
    rw [hw] at e
    simp [runB, sSeq, sSet, sFz, sLs, sCons, sNil, sTup, sVar, sC, sRet, sOp, sHn, sHv, res, look, opAdd, ofOpt, O.bind, O.bindS, startS, inSlot, LIM, outsAt, outOf, sIsi, isX, isT, tyN, isA, sItL, sItT, gT, gC, gN, gZ, sTru, tru, sIfS, sOrT, sAndT, sNotT, sB, sAnd, sOr, sNot, sIf, sUn, fLen, sCall, sACons, sAv, sAs, sANil, slots, argsOf, argOf, putBack, put1, sPart, sExpr, m_2, sMany, sMF, sMV, sMNil, setMany, e]
  | some r =>
    rw [hw] at e
    simp [runB, sSeq, sSet, sFz, sLs, sCons, sNil, sTup, sVar, sC, sRet, sOp, sHn, sHv, res, look, opAdd, ofOpt, O.bind, O.bindS, startS, inSlot, LIM, outsAt, outOf, sIsi, isX, isT, tyN, isA, sItL, sItT, gT, gC, gN, gZ, sTru, tru, sIfS, sOrT, sAndT, sNotT, sB, sAnd, sOr, sNot, sIf, sUn, fLen, sCall, sACons, sAv, sAs, sANil, slots, argsOf, argOf, putBack, put1, sPart, sExpr, m_2, sMany, sMF, sMV, sMNil, setMany, e]
end LW

set_option Elab.async false
set_option linter.all false
set_option maxRecDepth 100000
set_option maxHeartbeats 4000000
namespace LW
open PySem L2 TL
theorem cond_v {σ : SS} {E : List D} (e : σ[1]? = some (some (.val (.lst E)))) (h : okL 199 E = true) : (sB (sOp cNe (sHn 1) (sHv (sFz (sLs sNil))))) σ = .ok (!E.isEmpty) σ := by
  have z : deqL E [] = E.isEmpty := by cases E <;> simp [deqL]
  simp [sB, sOp, sHn, e, O.bind, sHv, sFz, sLs, sNil, LIM, res, look, ofOpt, cNe, ok, okL, h, deq, z]
theorem stepQ_size (k : Nat) (th a b : Option SD) (E : List D) (p : List D) (d : D) : lb_19_0 (Φ k) [th, some (.val (.lst (prq (d, p) :: E))), some (.val (.int 60)), a, b] = .rt (.lst [.str "size"]) [th, some (.val (.lst (prq (d, p) :: E))), some (.val (.int 60)), some (.val d), some (.val (.tup p))] := by
  have n4 : 0 < (E.length : Int) + 1 := by omega
  simp [runB, sSeq, sSet, sFz, sLs, sCons, sNil, sTup, sVar, sC, sRet, sOp, sHn, sHv, res, look, opAdd, ofOpt, O.bind, O.bindS, startS, inSlot, LIM, outsAt, outOf, sIsi, isX, isT, tyN, isA, sItL, sItT, gT, gC, gN, gZ, sTru, tru, sIfS, sOrT, sAndT, sNotT, sB, sAnd, sOr, sNot, sIf, sUn, fLen, sCall, sACons, sAv, sAs, sANil, slots, argsOf, argOf, putBack, put1, sPart, sExpr, lb_19_0, prq, sAsg, cei, opIx, atI, ixN, n4]
theorem stepQ_bad (k : Nat) (th a b : Option SD) (E p : List D) (d : D) (s : Nat) (ho : oks 150 d = true) (hs : s < 60) (hp : p.length ≤ 200) (hb : shp d = false ∨ 12 ≤ p.length) :
    lb_19_0 (Φ (k + 1)) [th, some (.val (.lst (prq (d, p) :: E))), some (.val (.int s)), a, b] = .rt (.lst [.tup p]) [th, some (.val (.lst (prq (d, p) :: E))), some (.val (.int s)), some (.val d), some (.val (.tup p))] := by
  have e := Q_shape k (oks_mono (by decide) ho)
  have n1 : ((s : Int) == 60) = false := beq_eq_false_iff_ne.mpr (by omega)
  have n4 : 0 < (E.length : Int) + 1 := by omega
  cases hh : shp d with
  | false =>
    rw [hh] at e
    simp [runB, sSeq, sSet, sFz, sLs, sCons, sNil, sTup, sVar, sC, sRet, sOp, sHn, sHv, res, look, opAdd, ofOpt, O.bind, O.bindS, startS, inSlot, LIM, outsAt, outOf, sIsi, isX, isT, tyN, isA, sItL, sItT, gT, gC, gN, gZ, sTru, tru, sIfS, sOrT, sAndT, sNotT, sB, sAnd, sOr, sNot, sIf, sUn, fLen, sCall, sACons, sAv, sAs, sANil, slots, argsOf, argOf, putBack, put1, sPart, sExpr, lb_19_0, prq, sAsg, cei, cGt, n1, e, opIx, atI, ixN, n4]
  | true =>
    rw [hh] at e
    have h12 : 12 ≤ p.length := by
      rcases hb with h | h
      · rw [hh] at h; cases h
      · exact h
    have h3 : 11 < (p.length : Int) := by omega
    simp [runB, sSeq, sSet, sFz, sLs, sCons, sNil, sTup, sVar, sC, sRet, sOp, sHn, sHv, res, look, opAdd, ofOpt, O.bind, O.bindS, startS, inSlot, LIM, outsAt, outOf, sIsi, isX, isT, tyN, isA, sItL, sItT, gT, gC, gN, gZ, sTru, tru, sIfS, sOrT, sAndT, sNotT, sB, sAnd, sOr, sNot, sIf, sUn, fLen, sCall, sACons, sAv, sAs, sANil, slots, argsOf, argOf, putBack, put1, sPart, sExpr, lb_19_0, prq, sAsg, cei, cGt, n1, e, h3, opIx, atI, ixN, n4]
theorem stepQ_go (k : Nat) (th a b : Option SD) (E p : List D) (d : D) (s : Nat) (ho : oks 150 d = true) (hs : s < 60) (hE : E.length ≤ 10000) (hh : shp d = true) (hp : p.length < 12) :
    lb_19_0 (Φ (k + 1)) [th, some (.val (.lst (prq (d, p) :: E))), some (.val (.int s)), a, b] = .nx [th, some (.val (.lst ((kids d p).map prq ++ E))), some (.val (.int (s + 1))), some (.val d), some (.val (.tup p))] := by
  have e := Q_shape k (oks_mono (by decide) ho)
  have n1 : ((s : Int) == 60) = false := beq_eq_false_iff_ne.mpr (by omega)
  have n4 : 0 < (E.length : Int) + 1 := by omega
  rw [hh] at e
  have h3 : ¬ (11 < (p.length : Int)) := by omega
  have h4 : p.length + 1 ≤ 16777216 := by omega
  have h6 : 2 + E.length ≤ 16777216 := by omega
  have h7 : p.length ≤ 16777215 := by omega
  have h8 : 1 + 1 + E.length ≤ 16777216 := by omega
  rcases shp_cases hh with ⟨w, rfl⟩ | ⟨w, x, rfl⟩ | ⟨w, x, y, rfl⟩
  · simp [runB, sSeq, sSet, sFz, sLs, sCons, sNil, sTup, sVar, sC, sRet, sOp, sHn, sHv, res, look, opAdd, ofOpt, O.bind, O.bindS, startS, inSlot, LIM, outsAt, outOf, sIsi, isX, isT, tyN, isA, sItL, sItT, gT, gC, gN, gZ, sTru, tru, sIfS, sOrT, sAndT, sNotT, sB, sAnd, sOr, sNot, sIf, sUn, fLen, sCall, sACons, sAv, sAs, sANil, slots, argsOf, argOf, putBack, put1, sPart, sExpr, lb_19_0, prq, kids, sAsg, sMany, sMV, sMNil, setMany, cei, cGt, n1, e, h3, opIx, atI, ixN, n4, sSl, opSl, cut_1]
  · simp [runB, sSeq, sSet, sFz, sLs, sCons, sNil, sTup, sVar, sC, sRet, sOp, sHn, sHv, res, look, opAdd, ofOpt, O.bind, O.bindS, startS, inSlot, LIM, outsAt, outOf, sIsi, isX, isT, tyN, isA, sItL, sItT, gT, gC, gN, gZ, sTru, tru, sIfS, sOrT, sAndT, sNotT, sB, sAnd, sOr, sNot, sIf, sUn, fLen, sCall, sACons, sAv, sAs, sANil, slots, argsOf, argOf, putBack, put1, sPart, sExpr, lb_19_0, prq, kids, sAsg, sMany, sMV, sMNil, setMany, cei, cGt, n1, e, h3, opIx, atI, ixN, n4, sSl, opSl, cut_1]
  · simp [runB, sSeq, sSet, sFz, sLs, sCons, sNil, sTup, sVar, sC, sRet, sOp, sHn, sHv, res, look, opAdd, ofOpt, O.bind, O.bindS, startS, inSlot, LIM, outsAt, outOf, sIsi, isX, isT, tyN, isA, sItL, sItT, gT, gC, gN, gZ, sTru, tru, sIfS, sOrT, sAndT, sNotT, sB, sAnd, sOr, sNot, sIf, sUn, fLen, sCall, sACons, sAv, sAs, sANil, slots, argsOf, argOf, putBack, put1, sPart, sExpr, lb_19_0, prq, kids, sAsg, sMany, sMV, sMNil, setMany, cei, cGt, n1, e, h3, opIx, atI, ixN, n4, sSl, opSl, cut_1, h4, h6, h7, h8]
theorem runQ (k : Nat) (th : Option SD) : ∀ (f g : Nat) (st : List (D × List D)) (s : Nat) (a b : Option SD) (o : Option D), (∀ q ∈ st, Okk q) → st.length + 2 * f ≤ 5000 → s ≤ 60 → mach f st s = some o →
    ∃ σ', sWhile (sB (sOp cNe (sHn 1) (sHv (sFz (sLs sNil))))) (lb_19_0 (Φ (k + 1))) (f + g) [th, some (.val (.lst (st.map prq))), some (.val (.int s)), a, b] = (match o with
      | none => .nx (th :: σ')
      | some r => .rt (.lst [r]) (th :: σ'))
  | 0, _, _, _, _, _, _, _, _, _, h => by cases h
  | f + 1, g, [], s, a, b, o, hk, hl, hs, h => by
    cases h
    refine ⟨[some (.val (.lst [])), some (.val (.int s)), a, b], ?_⟩
    rw [show f + 1 + g = (f + g) + 1 by omega]
    exact while_end (cond_v (E := []) rfl (by simp [okL]))
  | f + 1, g, (d, p) :: r, s, a, b, o, hk, hl, hs, h => by
    have k0 := hk _ List.mem_cons_self
    have cnd := cond_v (σ := [th, some (.val (.lst (((d, p) :: r).map prq))), some (.val (.int s)), a, b]) rfl (encs_ok hk)
    have ne : (!(((d, p) :: r).map prq).isEmpty) = true := by simp
    rw [ne] at cnd
    rw [show f + 1 + g = (f + g) + 1 by omega]
    rw [List.map_cons] at cnd ⊢
    unfold mach at h
    split at h
    · rename_i e60
      cases h
      subst e60
      exact ⟨_, while_rt cnd (stepQ_size (k + 1) th a b _ p d)⟩
    · rename_i n60
      split at h
      · rename_i hb
        cases h
        exact ⟨_, while_rt cnd (stepQ_bad k th a b _ p d s k0.1 (by omega) k0.2.2 hb)⟩
      · rename_i hb
        have h1 : shp d = true := by
          cases e : shp d with
          | true => rfl
          | false => exact absurd (.inl e) hb
        have h2 : p.length < 12 := by
          rcases Nat.lt_or_ge p.length 12 with q | q
          · exact q
          · exact absurd (.inr q) hb
        have kl : (kids d p).length ≤ 2 := by unfold kids; split <;> simp
        simp only [List.length_cons] at hl
        obtain ⟨σ', e⟩ := runQ k th f g (kids d p ++ r) (s + 1) (some (.val d)) (some (.val (.tup p))) o (fun q hq => by
          rcases List.mem_append.mp hq with hq | hq
          · exact kids_okk k0 h2 q hq
          · exact hk q (List.mem_cons_of_mem _ hq)) (by rw [List.length_append]; omega) (by omega) h
        refine ⟨σ', (while_go cnd (stepQ_go k th a b _ p d s k0.1 (by omega) (by simp; omega) h1 h2)).trans ?_⟩
        rw [← e]
        congr 1
        simp [List.map_append]
theorem Q_wrong (k : Nat) {d : D} (h : oks 150 d = true) : Φ (k + 2) 19 [.val d] = .ok (.lst (wr d).toList) [.val d] := by
  obtain ⟨σ', e⟩ := runQ k (some (.val d)) 62 2938 [(d, [])] 0 none none (wr d) (fun q hq => by
    have := List.mem_singleton.mp hq; subst this
    exact ⟨h, .nil⟩) (by simp) (by decide) (wr_eq d)
  have e : lw_19_0 (Φ (k + 1)) [some (.val d), some (.val (.lst [.tup [d, .tup []]])), some (.val (.int 0)), none, none] = _ := e
  show runB 5 1 (m_19 (Φ (k + 1))) _ = _
  cases hw : wr d with
  | none =>
    rw [hw] at e
    simp [runB, sSeq, sSet, sFz, sLs, sCons, sNil, sTup, sVar, sC, sRet, sOp, sHn, sHv, res, look, opAdd, ofOpt, O.bind, O.bindS, startS, inSlot, LIM, outsAt, outOf, sIsi, isX, isT, tyN, isA, sItL, sItT, gT, gC, gN, gZ, sTru, tru, sIfS, sOrT, sAndT, sNotT, sB, sAnd, sOr, sNot, sIf, sUn, fLen, sCall, sACons, sAv, sAs, sANil, slots, argsOf, argOf, putBack, put1, sPart, sExpr, m_19, sMany, sMF, sMV, sMNil, setMany, e]
  | some r =>
    rw [hw] at e
    simp [runB, sSeq, sSet, sFz, sLs, sCons, sNil, sTup, sVar, sC, sRet, sOp, sHn, sHv, res, look, opAdd, ofOpt, O.bind, O.bindS, startS, inSlot, LIM, outsAt, outOf, sIsi, isX, isT, tyN, isA, sItL, sItT, gT, gC, gN, gZ, sTru, tru, sIfS, sOrT, sAndT, sNotT, sB, sAnd, sOr, sNot, sIf, sUn, fLen, sCall, sACons, sAv, sAs, sANil, slots, argsOf, argOf, putBack, put1, sPart, sExpr, m_19, sMany, sMF, sMV, sMNil, setMany, e]
/-! ### what is told of it -/
/-- what is told: size, or a path -/
def Rs (r : D) : Prop := r = .str "size" ∨ ∃ p, r = .tup p ∧ Pth p
theorem mach_rs : ∀ (f : Nat) (st : List (D × List D)) (s : Nat) (r : D), (∀ q ∈ st, Okk q) → mach f st s = some (some r) → Rs r
  | 0, _, _, _, _, h => by cases h
  | f + 1, [], s, r, _, h => by cases h
  | f + 1, (d, p) :: rs, s, r, hk, h => by
    have k0 := hk _ List.mem_cons_self
    unfold mach at h
    split at h
    · cases h; exact .inl rfl
    · split at h
      · cases h; exact .inr ⟨p, rfl, k0.2⟩
      · rename_i hb
        have h2 : p.length < 12 := by
          rcases Nat.lt_or_ge p.length 12 with q | q
          · exact q
          · exact absurd (.inr q) hb
        exact mach_rs f _ _ r (fun q hq => by
          rcases List.mem_append.mp hq with hq | hq
          · exact kids_okk k0 h2 q hq
          · exact hk q (List.mem_cons_of_mem _ hq)) h
theorem wr_rs {d r : D} (h : oks 150 d = true) (e : wr d = some r) : Rs r :=
  mach_rs 62 [(d, [])] 0 r (fun q hq => by
    have := List.mem_singleton.mp hq; subst this
    exact ⟨h, .nil⟩) (by rw [wr_eq, e])
theorem Rs.ok {r : D} (h : Rs r) (n : Nat) : TL.ok (n + 1) r = true := by
  rcases h with rfl | ⟨p, rfl, hp⟩
  · simp [TL.ok]
  · simp only [TL.ok]; exact hp.okL n
theorem Rs.noLam {r : D} (h : Rs r) : TL.noLam r = true := ok_nolam (h.ok 0)
theorem Rs.small {r : D} (h : Rs r) : TL.small r = true ∧ bulkD r ≤ 200 := by
  rcases h with rfl | ⟨p, rfl, hp⟩
  · exact ⟨by decide +kernel, by decide +kernel⟩
  · exact ⟨by simp only [TL.small]; exact hp.small.1, by simp only [bulkD]; exact Nat.le_trans hp.small.2 hp.2⟩
theorem P_need (k : Nat) {d : D} (h : oks 150 d = true) : Φ (k + 4) 4 [.val d] = (match wr d with | none => .ok .non [.val d] | some r => .ex ⟨0, r⟩ [.val d]) := by
  have e := P_wrong k h
  show runB 2 1 (m_4 (Φ (k + 3))) _ = _
  cases hw : wr d with
  | none =>
    rw [hw] at e
    simp [runB, sSeq, sSet, sFz, sLs, sCons, sNil, sTup, sVar, sC, sRet, sOp, sHn, sHv, res, look, opAdd, ofOpt, O.bind, O.bindS, startS, inSlot, LIM, outsAt, outOf, sIsi, isX, isT, tyN, isA, sItL, sItT, gT, gC, gN, gZ, sTru, tru, sIfS, sOrT, sAndT, sNotT, sB, sAnd, sOr, sNot, sIf, sUn, fLen, sCall, sACons, sAv, sAs, sANil, slots, argsOf, argOf, putBack, put1, sPart, sExpr, m_4, e, cNe, ok, okL, deq, deqL]
  | some r =>
    rw [hw] at e
    have hr := (wr_rs h hw).ok 197
    have hr2 := (wr_rs h hw).ok 198
    simp [runB, sSeq, sSet, sFz, sLs, sCons, sNil, sTup, sVar, sC, sRet, sOp, sHn, sHv, res, look, opAdd, ofOpt, O.bind, O.bindS, startS, inSlot, LIM, outsAt, outOf, sIsi, isX, isT, tyN, isA, sItL, sItT, gT, gC, gN, gZ, sTru, tru, sIfS, sOrT, sAndT, sNotT, sB, sAnd, sOr, sNot, sIf, sUn, fLen, sCall, sACons, sAv, sAs, sANil, slots, argsOf, argOf, putBack, put1, sPart, sExpr, m_4, e, cNe, ok, okL, deq, deqL, hr, hr2, opIx, atI, ixN, sRaise]
theorem P_is (k : Nat) {d : D} (h : oks 150 d = true) : Φ (k + 4) 3 [.val d] = .ok (.bl (wr d).isNone) [.val d] := by
  have e := P_wrong k h
  show runB 1 1 (m_3 (Φ (k + 3))) _ = _
  cases hw : wr d with
  | none =>
    rw [hw] at e
    simp [runB, sSeq, sSet, sFz, sLs, sCons, sNil, sTup, sVar, sC, sRet, sOp, sHn, sHv, res, look, opAdd, ofOpt, O.bind, O.bindS, startS, inSlot, LIM, outsAt, outOf, sIsi, isX, isT, tyN, isA, sItL, sItT, gT, gC, gN, gZ, sTru, tru, sIfS, sOrT, sAndT, sNotT, sB, sAnd, sOr, sNot, sIf, sUn, fLen, sCall, sACons, sAv, sAs, sANil, slots, argsOf, argOf, putBack, put1, sPart, sExpr, m_3, e, cEq, ok, okL, deq, deqL]
  | some r =>
    rw [hw] at e
    have hr := (wr_rs h hw).ok 197
    have hr2 := (wr_rs h hw).ok 198
    simp [runB, sSeq, sSet, sFz, sLs, sCons, sNil, sTup, sVar, sC, sRet, sOp, sHn, sHv, res, look, opAdd, ofOpt, O.bind, O.bindS, startS, inSlot, LIM, outsAt, outOf, sIsi, isX, isT, tyN, isA, sItL, sItT, gT, gC, gN, gZ, sTru, tru, sIfS, sOrT, sAndT, sNotT, sB, sAnd, sOr, sNot, sIf, sUn, fLen, sCall, sACons, sAv, sAs, sANil, slots, argsOf, argOf, putBack, put1, sPart, sExpr, m_3, e, cEq, ok, okL, deq, deqL, hr, hr2]
end LW

set_option Elab.async false
set_option linter.all false
set_option maxRecDepth 100000
set_option maxHeartbeats 4000000
namespace LW
open PySem L2 TL
inductive Ty : Nat → D → Prop
  | a {n} : Ty n (.tup [.str "atom", .str "a"])
  | b {n} : Ty n (.tup [.str "atom", .str "b"])
  | one {n} : Ty n (.tup [.str "one"])
  | mk {n : Nat} {w : Str} {x y : D} (hw : w = "both" ∨ w = "either" ∨ w = "to") (hx : Ty n x) (hy : Ty n y) : Ty (n + 1) (.tup [.str w, x, y])
theorem Ty.oks {n : Nat} {t : D} (h : Ty n t) : oks (n + 1) t = true := by
  induction h with
  | a => simp [TL.oks, oksL]
  | b => simp [TL.oks, oksL]
  | one => simp [TL.oks, oksL]
  | @mk n w' x y hw hx hy ix iy => rcases hw with rfl | rfl | rfl <;> simp [TL.oks, oksL, ix, iy]
/-! ### types drawn -/
def tb : Nat → Int
  | 0 => 8
  | n + 1 => 8 + 2 * tb n
theorem tb_pos : ∀ n, 0 ≤ tb n
  | 0 => by decide
  | n + 1 => by have := tb_pos n; simp only [tb]; omega
theorem P_type : ∀ (n k : Nat) (T : Int) (m : MO), St T m → T + tb n ≤ 900000 → ∃ t m', Φ (k + n + 3) 16 [.own m, .val (.int (n : Nat))] = .ok t [.own m', .val (.int (n : Nat))] ∧ Ty n t ∧ St (T + tb n) m'
  | 0, k, T, m, hm, hT => by
    simp only [tb] at hT ⊢
    obtain ⟨w1, m1, e1, a1, b1, s1⟩ := digit k 9 hm (by omega) (by decide) (by decide)
    obtain ⟨w2, m2, e2, a2, b2, s2⟩ := digit k 4 s1 (by omega) (by decide) (by decide)
    have go : ∀ t, opIx (.lst [.tup [.str "atom", .str "a"], .tup [.str "atom", .str "b"], .tup [.str "one"], .tup [.str "atom", .str "a"]]) (.int w2) = some t → Φ (k + 3) 16 [.own m, .val (.int 0)] = .ok t [.own m2, .val (.int 0)] := fun t ht => by
      show runB 4 2 (m_16 (Φ (k + 2))) _ = _
      simp [runB, sSeq, sSet, sFz, sLs, sCons, sNil, sTup, sVar, sC, sRet, sOp, sHn, sHv, res, look, opAdd, ofOpt, O.bind, O.bindS, startS, inSlot, LIM, outsAt, outOf, sIsi, isX, isT, tyN, isA, sItL, sItT, gT, gC, gN, gZ, sTru, tru, sIfS, sOrT, sAndT, sNotT, sB, sAnd, sOr, sNot, sIf, sUn, fLen, sCall, sACons, sAv, sAs, sANil, slots, argsOf, argOf, putBack, put1, sPart, sExpr, m_16, e1, e2, cei, ht]
    rcases (by omega : w2 = 0 ∨ w2 = 1 ∨ w2 = 2 ∨ w2 = 3) with rfl | rfl | rfl | rfl
    · exact ⟨_, m2, go _ rfl, .a, s2.le (by omega)⟩
    · exact ⟨_, m2, go _ rfl, .b, s2.le (by omega)⟩
    · exact ⟨_, m2, go _ rfl, .one, s2.le (by omega)⟩
    · exact ⟨_, m2, go _ rfl, .a, s2.le (by omega)⟩
  | n + 1, k, T, m, hm, hT => by
    have tp := tb_pos n
    simp only [tb] at hT ⊢
    obtain ⟨w1, m1, e1, a1, b1, s1⟩ := digit (k + n + 1) 9 hm (by omega) (by decide) (by decide)
    have e1 : Φ (k + n + 3) 15 [.own m, .val (.int 9)] = .ok (.int w1) [.own m1, .val (.int 9)] := e1
    have nz : ¬ ((n : Int) + 1 = 0) := by omega
    by_cases h3 : w1 < 3
    · obtain ⟨w2, m2, e2, a2, b2, s2⟩ := digit (k + n + 1) 4 s1 (by omega) (by decide) (by decide)
      have e2 : Φ (k + n + 3) 15 [.own m1, .val (.int 4)] = .ok (.int w2) [.own m2, .val (.int 4)] := e2
      have go : ∀ t, opIx (.lst [.tup [.str "atom", .str "a"], .tup [.str "atom", .str "b"], .tup [.str "one"], .tup [.str "atom", .str "a"]]) (.int w2) = some t → Φ (k + (n + 1) + 3) 16 [.own m, .val (.int ((n + 1 : Nat) : Int))] = .ok t [.own m2, .val (.int ((n + 1 : Nat) : Int))] := fun t ht => by
        show runB 4 2 (m_16 (Φ (k + n + 3))) _ = _
        simp [runB, sSeq, sSet, sFz, sLs, sCons, sNil, sTup, sVar, sC, sRet, sOp, sHn, sHv, res, look, opAdd, ofOpt, O.bind, O.bindS, startS, inSlot, LIM, outsAt, outOf, sIsi, isX, isT, tyN, isA, sItL, sItT, gT, gC, gN, gZ, sTru, tru, sIfS, sOrT, sAndT, sNotT, sB, sAnd, sOr, sNot, sIf, sUn, fLen, sCall, sACons, sAv, sAs, sANil, slots, argsOf, argOf, putBack, put1, sPart, sExpr, m_16, e1, e2, cei, ht, nz, cLt, h3]
      rcases (by omega : w2 = 0 ∨ w2 = 1 ∨ w2 = 2 ∨ w2 = 3) with rfl | rfl | rfl | rfl
      · exact ⟨_, m2, go _ rfl, .a, s2.le (by omega)⟩
      · exact ⟨_, m2, go _ rfl, .b, s2.le (by omega)⟩
      · exact ⟨_, m2, go _ rfl, .one, s2.le (by omega)⟩
      · exact ⟨_, m2, go _ rfl, .a, s2.le (by omega)⟩
    · obtain ⟨x, m2, ex, tx, s2⟩ := P_type n k (T + 4) m1 s1 (by omega)
      obtain ⟨y, m3, ey, ty, s3⟩ := P_type n k (T + 4 + tb n) m2 s2 (by omega)
      have go : ∀ v : Str, opIx (.lst [.str "both", .str "both", .str "either", .str "either", .str "to", .str "to"]) (.int (w1 - 3)) = some (.str v) → Φ (k + (n + 1) + 3) 16 [.own m, .val (.int ((n + 1 : Nat) : Int))] = .ok (.tup [.str v, x, y]) [.own m3, .val (.int ((n + 1 : Nat) : Int))] := fun v hv => by
        show runB 4 2 (m_16 (Φ (k + n + 3))) _ = _
        simp [runB, sSeq, sSet, sFz, sLs, sCons, sNil, sTup, sVar, sC, sRet, sOp, sHn, sHv, res, look, opAdd, ofOpt, O.bind, O.bindS, startS, inSlot, LIM, outsAt, outOf, sIsi, isX, isT, tyN, isA, sItL, sItT, gT, gC, gN, gZ, sTru, tru, sIfS, sOrT, sAndT, sNotT, sB, sAnd, sOr, sNot, sIf, sUn, fLen, sCall, sACons, sAv, sAs, sANil, slots, argsOf, argOf, putBack, put1, sPart, sExpr, m_16, e1, cei, nz, cLt, h3, opSub, hv, ex, ey]
      rcases (by omega : w1 = 3 ∨ w1 = 4 ∨ w1 = 5 ∨ w1 = 6 ∨ w1 = 7 ∨ w1 = 8) with rfl | rfl | rfl | rfl | rfl | rfl
      · exact ⟨_, m3, go "both" rfl, .mk (.inl rfl) tx ty, s3.le (by omega)⟩
      · exact ⟨_, m3, go "both" rfl, .mk (.inl rfl) tx ty, s3.le (by omega)⟩
      · exact ⟨_, m3, go "either" rfl, .mk (.inr (.inl rfl)) tx ty, s3.le (by omega)⟩
      · exact ⟨_, m3, go "either" rfl, .mk (.inr (.inl rfl)) tx ty, s3.le (by omega)⟩
      · exact ⟨_, m3, go "to" rfl, .mk (.inr (.inr rfl)) tx ty, s3.le (by omega)⟩
      · exact ⟨_, m3, go "to" rfl, .mk (.inr (.inr rfl)) tx ty, s3.le (by omega)⟩
end LW

set_option Elab.async false
set_option linter.all false
set_option maxRecDepth 100000
set_option maxHeartbeats 4000000
namespace LW
open PySem L2 TL
/-! ### a type is all right -/
theorem Ty.shp {n : Nat} {t : D} (h : Ty n t) : shp t = true := by
  cases h with
  | a => simp only [LW.shp]; decide +kernel
  | b => simp only [LW.shp]; decide +kernel
  | one => simp only [LW.shp]; decide +kernel
  | mk hw hx hy => rcases hw with rfl | rfl | rfl <;> simp [LW.shp, kindW]
theorem mach_ty {n : Nat} {t : D} (h : Ty n t) : ∃ c, 1 ≤ c ∧ c + 1 ≤ 2 ^ (n + 1) ∧ ∀ (f : Nat) (st : List (D × List D)) (s : Nat) (p : List D), s + c ≤ 60 → p.length + n < 12 → mach (f + c) ((t, p) :: st) s = mach f st (s + c) := by
  have leaf : ∀ {n : Nat} {t : D}, LW.shp t = true → (∀ p, kids t p = []) → ∃ c, 1 ≤ c ∧ c + 1 ≤ 2 ^ (n + 1) ∧ ∀ (f : Nat) (st : List (D × List D)) (s : Nat) (p : List D), s + c ≤ 60 → p.length + n < 12 → mach (f + c) ((t, p) :: st) s = mach f st (s + c) := fun {n t} h1 h2 => by
    have q : 2 ≤ 2 ^ (n + 1) := by have := Nat.pow_le_pow_right (show 0 < 2 by decide) (show 1 ≤ n + 1 by omega); simpa using this
    refine ⟨1, by decide, by omega, fun f st s p hs hp => ?_⟩
    have n1 : ¬ s = 60 := by omega
    have n2 : ¬ (LW.shp t = false ∨ 12 ≤ p.length) := by
      rw [h1]
      rintro (z | z)
      · cases z
      · omega
    show mach (f + 1) ((t, p) :: st) s = _
    simp only [mach]
    rw [if_neg n1, if_neg n2, h2 p, List.nil_append]
  induction h with
  | @a n => exact leaf (Ty.a (n := 0)).shp (fun p => rfl)
  | @b n => exact leaf (Ty.b (n := 0)).shp (fun p => rfl)
  | @one n => exact leaf (Ty.one (n := 0)).shp (fun p => rfl)
  | @mk n w x y hw hx hy ix iy =>
    obtain ⟨c1, l1, u1, e1⟩ := ix
    obtain ⟨c2, l2, u2, e2⟩ := iy
    have q : 2 ^ (n + 2) = 2 ^ (n + 1) + 2 ^ (n + 1) := by rw [Nat.pow_succ 2 (n + 1)]; omega
    refine ⟨1 + c1 + c2, by omega, by omega, fun f st s p hs hp => ?_⟩
    have n1 : ¬ s = 60 := by omega
    have n2 : ¬ (LW.shp (.tup [.str w, x, y]) = false ∨ 12 ≤ p.length) := by
      rw [(Ty.mk hw hx hy).shp]
      rintro (z | z)
      · cases z
      · omega
    rw [show f + (1 + c1 + c2) = (f + c2 + c1) + 1 by omega]
    simp only [mach]
    rw [if_neg n1, if_neg n2]
    show mach (f + c2 + c1) ((x, p ++ [.int 1]) :: (y, p ++ [.int 2]) :: st) (s + 1) = _
    rw [e1 (f + c2) _ (s + 1) _ (by omega) (by simp; omega), e2 f _ _ _ (by omega) (by simp; omega)]
    congr 1; omega
theorem Ty.wr {n : Nat} {t : D} (h : Ty n t) (hn : n ≤ 4) : wr t = none := by
  obtain ⟨c, l, u, e⟩ := mach_ty h
  have : 2 ^ (n + 1) ≤ 2 ^ 5 := Nat.pow_le_pow_right (by decide) (by omega)
  have e := e (62 - c) [] 0 [] (by omega) (by simp; omega)
  rw [show 62 - c + c = 62 by omega, wr_eq] at e
  obtain ⟨g, hg⟩ : ∃ g, 62 - c = g + 1 := ⟨61 - c, by omega⟩
  rw [hg] at e
  exact Option.some.inj e
/-! ### how great it is -/
def sz : Nat → D → Nat
  | n + 1, .tup [_, x, y] => 1 + sz n x + sz n y
  | _, _ => 1
def tl2 : D → List D
  | .tup [_, x, y] => [x, y]
  | _ => []
theorem step7 (φ : Nat → FT) (th a : Option SD) (E : List D) (s : Nat) {n : Nat} {t : D} (h : Ty n t) (hE : E.length ≤ 10000) :
    lb_7_0 φ [th, some (.own (.lst (E ++ [t]))), some (.val (.int s)), a] = .nx [th, some (.own (.lst (E ++ tl2 t))), some (.val (.int (s + 1))), some (.val t)] := by
  have h5 : E.length + 2 ≤ 16777216 := by omega
  have h6 : E.length + 1 + 1 ≤ 16777216 := by omega
  have h7 : E.length + (1 + 1) ≤ 16777216 := by omega
  cases h with
  | a => simp [runB, sSeq, sSet, sFz, sLs, sCons, sNil, sTup, sVar, sC, sRet, sOp, sHn, sHv, res, look, opAdd, ofOpt, O.bind, O.bindS, startS, inSlot, LIM, outsAt, outOf, sIsi, isX, isT, tyN, isA, sItL, sItT, gT, gC, gN, gZ, sTru, tru, sIfS, sOrT, sAndT, sNotT, sB, sAnd, sOr, sNot, sIf, sUn, fLen, sCall, sACons, sAv, sAs, sANil, slots, argsOf, argOf, putBack, put1, sPart, sExpr, lb_7_0, tl2, itemsOf, sPop, curL, sAugV, opIAdd, cei]
  | b => simp [runB, sSeq, sSet, sFz, sLs, sCons, sNil, sTup, sVar, sC, sRet, sOp, sHn, sHv, res, look, opAdd, ofOpt, O.bind, O.bindS, startS, inSlot, LIM, outsAt, outOf, sIsi, isX, isT, tyN, isA, sItL, sItT, gT, gC, gN, gZ, sTru, tru, sIfS, sOrT, sAndT, sNotT, sB, sAnd, sOr, sNot, sIf, sUn, fLen, sCall, sACons, sAv, sAs, sANil, slots, argsOf, argOf, putBack, put1, sPart, sExpr, lb_7_0, tl2, itemsOf, sPop, curL, sAugV, opIAdd, cei]
  | one => simp [runB, sSeq, sSet, sFz, sLs, sCons, sNil, sTup, sVar, sC, sRet, sOp, sHn, sHv, res, look, opAdd, ofOpt, O.bind, O.bindS, startS, inSlot, LIM, outsAt, outOf, sIsi, isX, isT, tyN, isA, sItL, sItT, gT, gC, gN, gZ, sTru, tru, sIfS, sOrT, sAndT, sNotT, sB, sAnd, sOr, sNot, sIf, sUn, fLen, sCall, sACons, sAv, sAs, sANil, slots, argsOf, argOf, putBack, put1, sPart, sExpr, lb_7_0, tl2, itemsOf, sPop, curL, sAugV, opIAdd, cei]
  | mk hw hx hy => simp [runB, sSeq, sSet, sFz, sLs, sCons, sNil, sTup, sVar, sC, sRet, sOp, sHn, sHv, res, look, opAdd, ofOpt, O.bind, O.bindS, startS, inSlot, LIM, outsAt, outOf, sIsi, isX, isT, tyN, isA, sItL, sItT, gT, gC, gN, gZ, sTru, tru, sIfS, sOrT, sAndT, sNotT, sB, sAnd, sOr, sNot, sIf, sUn, fLen, sCall, sACons, sAv, sAs, sANil, slots, argsOf, argOf, putBack, put1, sPart, sExpr, lb_7_0, tl2, itemsOf, sPop, curL, sAugV, opIAdd, cei, sExt, sSl, opSl, cut_1, h5, h6, h7]
abbrev cnd1 : SS → O Bool := sB (sOp cNe (sHn 1) (sHv (sFz (sLs sNil))))
theorem cndT {th a b : Option SD} {E : List D} {t : D} (h1 : okL 199 E = true) (h2 : ok 199 t = true) : cnd1 [th, some (.own (.lst (E ++ [t]))), a, b] = .ok true [th, some (.own (.lst (E ++ [t]))), a, b] := by
  have := cond_t (σ := [th, some (.own (.lst (E ++ [t]))), a, b]) rfl (okL_app.mpr ⟨h1, by simp only [okL, h2, Bool.and_self]⟩)
  rw [show cnd1 [th, some (.own (.lst (E ++ [t]))), a, b] = _ from this]; simp
theorem run7 (φ : Nat → FT) {n : Nat} {t : D} (h : Ty n t) : n ≤ 100 → ∀ (th a : Option SD) (E : List D) (s : Nat), okL 199 E = true → E.length + 10 * n ≤ 9000 →
    ∃ a', ∀ f, sWhile cnd1 (lb_7_0 φ) (f + sz n t) [th, some (.own (.lst (E ++ [t]))), some (.val (.int s)), a] = sWhile cnd1 (lb_7_0 φ) f [th, some (.own (.lst E)), some (.val (.int ((s + sz n t : Nat) : Int))), a'] := by
  have one : ∀ {n : Nat} {t : D}, Ty n t → n ≤ 100 → sz n t = 1 → tl2 t = [] → ∀ (th a : Option SD) (E : List D) (s : Nat), okL 199 E = true → E.length + 10 * n ≤ 9000 →
      ∃ a', ∀ f, sWhile cnd1 (lb_7_0 φ) (f + sz n t) [th, some (.own (.lst (E ++ [t]))), some (.val (.int s)), a] = sWhile cnd1 (lb_7_0 φ) f [th, some (.own (.lst E)), some (.val (.int ((s + sz n t : Nat) : Int))), a'] := fun {n t} h hn h1 h2 th a E s hE hl => by
    refine ⟨some (.val t), fun f => ?_⟩
    have st := step7 φ th a E s h (by omega)
    rw [h2, List.append_nil] at st
    rw [h1]
    refine (while_go (cndT hE (ok_mono (by omega) (oks_ok h.oks))) st).trans ?_
    norm_cast
  induction h with
  | @a n => intro hn; exact one .a hn (by cases n <;> rfl) rfl
  | @b n => intro hn; exact one .b hn (by cases n <;> rfl) rfl
  | @one n => intro hn; exact one .one hn (by cases n <;> rfl) rfl
  | @mk n w x y hw hx hy ix iy =>
    intro hn th a E s hE hl
    have hT : Ty (n + 1) (.tup [.str w, x, y]) := .mk hw hx hy
    have ox : ok 199 x = true := ok_mono (by omega) (oks_ok hx.oks)
    have oEx : okL 199 (E ++ [x]) = true := okL_app.mpr ⟨hE, by simp only [okL, ox, Bool.and_self]⟩
    obtain ⟨b1, e1⟩ := iy (by omega) th (some (.val (.tup [.str w, x, y]))) (E ++ [x]) (s + 1) oEx (by simp; omega)
    obtain ⟨b2, e2⟩ := ix (by omega) th b1 E (s + 1 + sz n y) hE (by omega)
    refine ⟨b2, fun f => ?_⟩
    have st := step7 φ th a E s hT (by omega)
    show sWhile cnd1 (lb_7_0 φ) (f + (1 + sz n x + sz n y)) _ = _
    rw [show f + (1 + sz n x + sz n y) = (f + sz n x + sz n y) + 1 by omega]
    refine (while_go (cndT hE (ok_mono (by omega) (oks_ok hT.oks))) st).trans ?_
    have e1 := e1 (f + sz n x)
    have e2 := e2 f
    rw [show ((s + 1 : Nat) : Int) = (s : Int) + 1 by omega] at e1
    rw [show E ++ tl2 (D.tup [.str w, x, y]) = (E ++ [x]) ++ [y] by simp [tl2], e1, e2]
    rw [show s + 1 + sz n y + sz n x = s + sz (n + 1) (D.tup [.str w, x, y]) by show _ = s + (1 + sz n x + sz n y); omega]
theorem sz_le : ∀ (n : Nat) (t : D), sz n t + 1 ≤ 2 ^ (n + 1)
  | 0, t => by simp [sz]
  | n + 1, t => by
    have q : 2 ^ (n + 1 + 1) = 2 ^ (n + 1) + 2 ^ (n + 1) := by rw [Nat.pow_succ 2 (n + 1)]; omega
    have q2 : 2 ≤ 2 ^ (n + 1) := by have := Nat.pow_le_pow_right (show 0 < 2 by decide) (show 1 ≤ n + 1 by omega); simpa using this
    rw [q]
    unfold sz
    split
    · rename_i x y e1
      cases e1
      have h1 := sz_le n x
      have h2 := sz_le n y
      omega
    · omega
theorem P_own_size (k : Nat) {n : Nat} {t : D} (h : Ty n t) (hn : n ≤ 10) : Φ (k + 1) 7 [.val t] = .ok (.int (sz n t)) [.val t] := by
  have hs := sz_le n t
  have : 2 ^ (n + 1) ≤ 2 ^ 11 := Nat.pow_le_pow_right (by decide) (by omega)
  obtain ⟨a', e⟩ := run7 (Φ k) h (by omega) (some (.val t)) none [] 0 (by simp [okL]) (by simp; omega)
  have e := e (3000 - sz n t)
  rw [List.nil_append] at e
  rw [show 3000 - sz n t + sz n t = 3000 by omega] at e
  obtain ⟨g, hg⟩ : ∃ g, 3000 - sz n t = g + 1 := ⟨2999 - sz n t, by omega⟩
  rw [hg, while_end (show cnd1 [some (.val t), some (.own (.lst [])), some (.val (.int ((0 + sz n t : Nat) : Int))), a'] = .ok false _ from cond_t (E := []) rfl (by simp [okL]))] at e
  have e : lw_7_0 (Φ k) [some (.val t), some (.own (.lst [t])), some (.val (.int 0)), none] = .nx [some (.val t), some (.own (.lst [])), some (.val (.int ((0 + sz n t : Nat) : Int))), a'] := e
  simp [runB, sSeq, sSet, sFz, sLs, sCons, sNil, sTup, sVar, sC, sRet, sOp, sHn, sHv, res, look, opAdd, ofOpt, O.bind, O.bindS, startS, inSlot, LIM, outsAt, outOf, sIsi, isX, isT, tyN, isA, sItL, sItT, gT, gC, gN, gZ, sTru, tru, sIfS, sOrT, sAndT, sNotT, sB, sAnd, sOr, sNot, sIf, sUn, fLen, sCall, sACons, sAv, sAs, sANil, slots, argsOf, argOf, putBack, put1, sPart, sExpr, Φ, m_7, sMany, sMF, sMV, sMNil, setMany, e]
theorem P_size (k : Nat) {n : Nat} {t : D} (h : Ty n t) (hn : n ≤ 4) : Φ (k + 5) 8 [.val t] = .ok (.int (sz n t)) [.val t] := by
  have e1 := P_need k (oks_mono (by omega) h.oks)
  rw [h.wr hn] at e1
  have e2 := P_own_size (k + 3) h (by omega)
  show runB 1 1 (m_8 (Φ (k + 4))) _ = _
  simp [runB, sSeq, sSet, sFz, sLs, sCons, sNil, sTup, sVar, sC, sRet, sOp, sHn, sHv, res, look, opAdd, ofOpt, O.bind, O.bindS, startS, inSlot, LIM, outsAt, outOf, sIsi, isX, isT, tyN, isA, sItL, sItT, gT, gC, gN, gZ, sTru, tru, sIfS, sOrT, sAndT, sNotT, sB, sAnd, sOr, sNot, sIf, sUn, fLen, sCall, sACons, sAv, sAs, sANil, slots, argsOf, argOf, putBack, put1, sPart, sExpr, m_8, e1, e2]
/-! ### the key -/
def ixk (w : Str) : Int := if w = "both" then 2 else if w = "either" then 3 else 4
def key : Nat → D → D
  | n + 1, .tup [.str w, x, y] => .tup [.int (1 + sz n x + sz n y : Nat), .int (ixk w), key n x, key n y]
  | _, .tup [_, s] => .tup [.int 1, .int 0, s]
  | _, .tup [s] => .tup [.int 1, .int 1, s]
  | _, d => d
theorem key_a (n : Nat) (s : D) : key n (.tup [.str "atom", s]) = .tup [.int 1, .int 0, s] := by cases n <;> rfl
theorem key_1 (n : Nat) (s : Str) : key n (.tup [.str s]) = .tup [.int 1, .int 1, .str s] := by cases n <;> rfl
theorem P_key : ∀ {n : Nat} {t : D}, Ty n t → n ≤ 10 → ∀ k, Φ (k + n + 2) 11 [.val t] = .ok (key n t) [.val t] := by
  intro n t h
  induction h with
  | @a n => intro _ k; rw [key_a]; simp [runB, sSeq, sSet, sFz, sLs, sCons, sNil, sTup, sVar, sC, sRet, sOp, sHn, sHv, res, look, opAdd, ofOpt, O.bind, O.bindS, startS, inSlot, LIM, outsAt, outOf, sIsi, isX, isT, tyN, isA, sItL, sItT, gT, gC, gN, gZ, sTru, tru, sIfS, sOrT, sAndT, sNotT, sB, sAnd, sOr, sNot, sIf, sUn, fLen, sCall, sACons, sAv, sAs, sANil, slots, argsOf, argOf, putBack, put1, sPart, sExpr, Φ, m_11, cei, sIdx, idxD, dl_KINDS, strsOf, idxS, opIx, atI, ixN, sNeg]
  | @b n => intro _ k; rw [key_a]; simp [runB, sSeq, sSet, sFz, sLs, sCons, sNil, sTup, sVar, sC, sRet, sOp, sHn, sHv, res, look, opAdd, ofOpt, O.bind, O.bindS, startS, inSlot, LIM, outsAt, outOf, sIsi, isX, isT, tyN, isA, sItL, sItT, gT, gC, gN, gZ, sTru, tru, sIfS, sOrT, sAndT, sNotT, sB, sAnd, sOr, sNot, sIf, sUn, fLen, sCall, sACons, sAv, sAs, sANil, slots, argsOf, argOf, putBack, put1, sPart, sExpr, Φ, m_11, cei, sIdx, idxD, dl_KINDS, strsOf, idxS, opIx, atI, ixN, sNeg]
  | @one n => intro _ k; rw [key_1]; simp [runB, sSeq, sSet, sFz, sLs, sCons, sNil, sTup, sVar, sC, sRet, sOp, sHn, sHv, res, look, opAdd, ofOpt, O.bind, O.bindS, startS, inSlot, LIM, outsAt, outOf, sIsi, isX, isT, tyN, isA, sItL, sItT, gT, gC, gN, gZ, sTru, tru, sIfS, sOrT, sAndT, sNotT, sB, sAnd, sOr, sNot, sIf, sUn, fLen, sCall, sACons, sAv, sAs, sANil, slots, argsOf, argOf, putBack, put1, sPart, sExpr, Φ, m_11, cei, sIdx, idxD, dl_KINDS, strsOf, idxS, opIx, atI, ixN, sNeg]
  | @mk n w x y hw hx hy ix iy =>
    intro hn k
    have e1 := ix (by omega) k
    have e2 := iy (by omega) k
    have e3 := P_own_size (k + n + 1) (Ty.mk hw hx hy) (by omega)
    have e3 : Φ (k + n + 2) 7 [.val (.tup [.str w, x, y])] = .ok (.int (1 + sz n x + sz n y : Nat)) [.val (.tup [.str w, x, y])] := e3
    show runB 1 1 (m_11 (Φ (k + n + 2))) _ = _
    show _ = FO.ok (.tup [.int (1 + sz n x + sz n y : Nat), .int (ixk w), key n x, key n y]) _
    generalize ((1 + sz n x + sz n y : Nat) : Int) = N at e3 ⊢
    rcases hw with rfl | rfl | rfl <;> simp [runB, sSeq, sSet, sFz, sLs, sCons, sNil, sTup, sVar, sC, sRet, sOp, sHn, sHv, res, look, opAdd, ofOpt, O.bind, O.bindS, startS, inSlot, LIM, outsAt, outOf, sIsi, isX, isT, tyN, isA, sItL, sItT, gT, gC, gN, gZ, sTru, tru, sIfS, sOrT, sAndT, sNotT, sB, sAnd, sOr, sNot, sIf, sUn, fLen, sCall, sACons, sAv, sAs, sANil, slots, argsOf, argOf, putBack, put1, sPart, sExpr, m_11, cei, sIdx, idxD, dl_KINDS, strsOf, idxS, opIx, atI, ixN, sNeg, e1, e2, e3, ixk]
theorem key_hd : ∀ {n : Nat} {t : D}, Ty n t → ∃ r, key n t = .tup (.int (sz n t : Nat) :: r) := by
  intro n t h
  cases h with
  | a => rw [key_a]; exact ⟨_, by cases n <;> rfl⟩
  | b => rw [key_a]; exact ⟨_, by cases n <;> rfl⟩
  | one => rw [key_1]; exact ⟨_, by cases n <;> rfl⟩
  | mk hw hx hy => exact ⟨_, rfl⟩
theorem Q_key : ∀ {n : Nat} {t : D}, Ty n t → n ≤ 10 → ∀ k, Φ (k + n + 2) 22 [.val t] = .ok (key n t) [.val t] := by
  intro n t h
  induction h with
  | @a n => intro _ k; rw [key_a]; simp [runB, sSeq, sSet, sFz, sLs, sCons, sNil, sTup, sVar, sC, sRet, sOp, sHn, sHv, res, look, opAdd, ofOpt, O.bind, O.bindS, startS, inSlot, LIM, outsAt, outOf, sIsi, isX, isT, tyN, isA, sItL, sItT, gT, gC, gN, gZ, sTru, tru, sIfS, sOrT, sAndT, sNotT, sB, sAnd, sOr, sNot, sIf, sUn, fLen, sCall, sACons, sAv, sAs, sANil, slots, argsOf, argOf, putBack, put1, sPart, sExpr, Φ, m_22, cei, cLt, sIndexL, opIdx, idxG, ok, okL, deq, opIx, atI, ixN, sNeg]
  | @b n => intro _ k; rw [key_a]; simp [runB, sSeq, sSet, sFz, sLs, sCons, sNil, sTup, sVar, sC, sRet, sOp, sHn, sHv, res, look, opAdd, ofOpt, O.bind, O.bindS, startS, inSlot, LIM, outsAt, outOf, sIsi, isX, isT, tyN, isA, sItL, sItT, gT, gC, gN, gZ, sTru, tru, sIfS, sOrT, sAndT, sNotT, sB, sAnd, sOr, sNot, sIf, sUn, fLen, sCall, sACons, sAv, sAs, sANil, slots, argsOf, argOf, putBack, put1, sPart, sExpr, Φ, m_22, cei, cLt, sIndexL, opIdx, idxG, ok, okL, deq, opIx, atI, ixN, sNeg]
  | @one n => intro _ k; rw [key_1]; simp [runB, sSeq, sSet, sFz, sLs, sCons, sNil, sTup, sVar, sC, sRet, sOp, sHn, sHv, res, look, opAdd, ofOpt, O.bind, O.bindS, startS, inSlot, LIM, outsAt, outOf, sIsi, isX, isT, tyN, isA, sItL, sItT, gT, gC, gN, gZ, sTru, tru, sIfS, sOrT, sAndT, sNotT, sB, sAnd, sOr, sNot, sIf, sUn, fLen, sCall, sACons, sAv, sAs, sANil, slots, argsOf, argOf, putBack, put1, sPart, sExpr, Φ, m_22, cei, cLt, sIndexL, opIdx, idxG, ok, okL, deq, opIx, atI, ixN, sNeg]
  | @mk n w x y hw hx hy ix iy =>
    intro hn k
    have e1 := ix (by omega) k
    have e2 := iy (by omega) k
    obtain ⟨r1, k1⟩ := key_hd hx
    obtain ⟨r2, k2⟩ := key_hd hy
    have z1 : 0 < (r1.length : Int) + 1 := by omega
    have z2 : 0 < (r2.length : Int) + 1 := by omega
    show runB 4 1 (m_22 (Φ (k + n + 2))) _ = _
    show _ = FO.ok (.tup [.int (1 + sz n x + sz n y : Nat), .int (ixk w), key n x, key n y]) _
    have en : ((1 + sz n x + sz n y : Nat) : Int) = (sz n x : Int) + (sz n y : Int) + 1 := by omega
    rw [en]
    rcases hw with rfl | rfl | rfl <;> simp [runB, sSeq, sSet, sFz, sLs, sCons, sNil, sTup, sVar, sC, sRet, sOp, sHn, sHv, res, look, opAdd, ofOpt, O.bind, O.bindS, startS, inSlot, LIM, outsAt, outOf, sIsi, isX, isT, tyN, isA, sItL, sItT, gT, gC, gN, gZ, sTru, tru, sIfS, sOrT, sAndT, sNotT, sB, sAnd, sOr, sNot, sIf, sUn, fLen, sCall, sACons, sAv, sAs, sANil, slots, argsOf, argOf, putBack, put1, sPart, sExpr, m_22, cei, cLt, sIndexL, opIdx, idxG, ok, okL, deq, opIx, atI, ixN, sNeg, e1, e2, sMany, sMV, sMNil, setMany, k1, k2, z1, z2, ixk]
end LW

set_option Elab.async false
set_option linter.all false
set_option maxRecDepth 100000
set_option maxHeartbeats 4000000
namespace LW
open PySem L2 TL PyProof.Rows
/-! ### keys compared -/
theorem key_ok : ∀ {n : Nat} {t : D}, Ty n t → ok (n + 2) (key n t) = true := by
  intro n t h
  induction h with
  | a => rw [key_a]; simp [ok, okL]
  | b => rw [key_a]; simp [ok, okL]
  | one => rw [key_1]; simp [ok, okL]
  | mk hw hx hy ix iy => simp [key, ok, okL, ix, iy]
theorem sz_pos (n : Nat) (t : D) : 1 ≤ sz n t := by
  unfold sz
  split <;> omega
theorem ltL_cons (x y : D) (xs ys : List D) : dLtL (x :: xs) (y :: ys) = if deq x y then dLtL xs ys else dLt x y := by simp only [dLtL]
theorem ltL_nil : dLtL [] [] = some false := by simp only [dLtL]
theorem lt_int (i j : Int) : dLt (.int i) (.int j) = some (decide (i < j)) := by simp only [dLt]
theorem lt_str (x y : Str) : dLt (.str x) (.str y) = some (decide (x.cps.toList < y.cps.toList)) := by simp only [dLt]
theorem lt_tup (xs ys : List D) : dLt (.tup xs) (.tup ys) = dLtL xs ys := by simp only [dLt]
theorem some_ite {c : Bool} {a b : Option Bool} (ha : ∃ x, a = some x) (hb : ∃ x, b = some x) : ∃ x, (if c = true then a else b) = some x := by
  cases c with
  | true => exact ha
  | false => exact hb
theorem lt_some : ∀ {n : Nat} {t : D}, Ty n t → ∀ {m : Nat} {u : D}, Ty m u → ∃ b, dLt (key n t) (key m u) = some b := by
  intro n t h
  have l3 : ∀ (i j : Int) (s z : Str), ∃ b, dLt (.tup [.int 1, .int i, .str s]) (.tup [.int 1, .int j, .str z]) = some b := fun i j s z => by
    rw [lt_tup, ltL_cons, ltL_cons, ltL_cons, ltL_nil, lt_int, lt_int, lt_str]
    exact some_ite (some_ite (some_ite ⟨_, rfl⟩ ⟨_, rfl⟩) ⟨_, rfl⟩) ⟨_, rfl⟩
  have lf : ∀ (s : Str) (i : Int) {m : Nat} {u : D}, Ty m u → ∃ b, dLt (.tup [.int 1, .int i, .str s]) (key m u) = some b := fun s i {m u} hu => by
    cases hu with
    | a => rw [key_a]; exact l3 _ _ _ _
    | b => rw [key_a]; exact l3 _ _ _ _
    | one => rw [key_1]; exact l3 _ _ _ _
    | @mk n w x y hw hx hy =>
      have := sz_pos n x
      have := sz_pos n y
      have e : ((1 : Int) == ((1 + sz n x + sz n y : Nat) : Int)) = false := beq_eq_false_iff_ne.mpr (by omega)
      unfold key
      rw [lt_tup, ltL_cons, dqi, e, lt_int]
      exact ⟨_, rfl⟩
  induction h with
  | a => intro m u hu; rw [key_a]; exact lf _ _ hu
  | b => intro m u hu; rw [key_a]; exact lf _ _ hu
  | one => intro m u hu; rw [key_1]; exact lf _ _ hu
  | @mk n w x y hw hx hy ix iy =>
    intro m u hu
    have h1 := sz_pos n x
    have h2 := sz_pos n y
    have e : (((1 + sz n x + sz n y : Nat) : Int) == (1 : Int)) = false := beq_eq_false_iff_ne.mpr (by omega)
    have kk : key (n + 1) (.tup [.str w, x, y]) = .tup [.int (1 + sz n x + sz n y : Nat), .int (ixk w), key n x, key n y] := rfl
    cases hu with
    | a => rw [key_a, kk, lt_tup, ltL_cons, dqi, e, lt_int]; exact ⟨_, rfl⟩
    | b => rw [key_a, kk, lt_tup, ltL_cons, dqi, e, lt_int]; exact ⟨_, rfl⟩
    | one => rw [key_1, kk, lt_tup, ltL_cons, dqi, e, lt_int]; exact ⟨_, rfl⟩
    | @mk m w' x' y' hw' hx' hy' =>
      have kk' : key (m + 1) (.tup [.str w', x', y']) = .tup [.int (1 + sz m x' + sz m y' : Nat), .int (ixk w'), key m x', key m y'] := rfl
      rw [kk, kk', lt_tup, ltL_cons, ltL_cons, ltL_cons, ltL_cons, ltL_nil, lt_int, lt_int]
      exact some_ite (some_ite (some_ite (some_ite ⟨_, rfl⟩ (iy hy')) (ix hx')) ⟨_, rfl⟩) ⟨_, rfl⟩
theorem P_before (k : Nat) {n m : Nat} {t u : D} (h : Ty n t) (hn : n ≤ 4) (h2 : Ty m u) (hm : m ≤ 4) : ∃ b, Φ (k + 9) 12 [.val t, .val u] = .ok (.bl b) [.val t, .val u] ∧ cLtT (key n t) (key m u) = some (.bl b) := by
  obtain ⟨b, e⟩ := lt_some h h2
  have o1 : ok 200 (key n t) = true := ok_mono (by omega) (key_ok h)
  have o2 : ok 200 (key m u) = true := ok_mono (by omega) (key_ok h2)
  have ec : cLtT (key n t) (key m u) = some (.bl b) := by simp only [cLtT, o1, o2, Bool.and_self, if_true, e, Option.map_some]
  refine ⟨b, ?_, ec⟩
  have e1 := P_need (k + 4) (oks_mono (by omega) h.oks)
  rw [h.wr hn] at e1
  have e2 := P_need (k + 4) (oks_mono (by omega) h2.oks)
  rw [h2.wr hm] at e2
  have e3 := P_key h (by omega) (k + 8 - n - 2)
  rw [show k + 8 - n - 2 + n + 2 = k + 8 by omega] at e3
  have e4 := P_key h2 (by omega) (k + 8 - m - 2)
  rw [show k + 8 - m - 2 + m + 2 = k + 8 by omega] at e4
  show runB 2 2 (m_12 (Φ (k + 8))) _ = _
  simp [runB, sSeq, sSet, sFz, sLs, sCons, sNil, sTup, sVar, sC, sRet, sOp, sHn, sHv, res, look, opAdd, ofOpt, O.bind, O.bindS, startS, inSlot, LIM, outsAt, outOf, sIsi, isX, isT, tyN, isA, sItL, sItT, gT, gC, gN, gZ, sTru, tru, sIfS, sOrT, sAndT, sNotT, sB, sAnd, sOr, sNot, sIf, sUn, fLen, sCall, sACons, sAv, sAs, sANil, slots, argsOf, argOf, putBack, put1, sPart, sExpr, m_12, e1, e2, e3, e4, ec]
/-! ### the atoms -/
def addA (s : Str) (K : List D) : List D := if K.any (fun z => deq z (.str s)) then K else K ++ [.str s]
def atm : Nat → D → List D → List D
  | n + 1, .tup [_, x, y], K => atm n x (atm n y K)
  | _, .tup [_, .str s], K => addA s K
  | _, _, K => K
def hasS (s : Str) : Nat → D → Bool
  | n + 1, .tup [_, x, y] => hasS s n x || hasS s n y
  | _, .tup [_, .str z] => z == s
  | _, _ => false
/-- the known ones -/
def Kn (K : List D) : Prop := K = [] ∨ K = [.str "a"] ∨ K = [.str "b"] ∨ K = [.str "a", .str "b"] ∨ K = [.str "b", .str "a"]
theorem atm_a (n : Nat) (s : Str) (K : List D) : atm n (.tup [.str "atom", .str s]) K = addA s K := by cases n <;> rfl
theorem atm_1 (n : Nat) (s : D) (K : List D) : atm n (.tup [s]) K = K := by cases n <;> rfl
theorem has_a (z : Str) (n : Nat) (s : Str) : hasS z n (.tup [.str "atom", .str s]) = (s == z) := by cases n <;> rfl
theorem has_1 (z : Str) (n : Nat) (s : D) : hasS z n (.tup [s]) = false := by cases n <;> rfl
theorem kn_a {K : List D} (h : Kn K) : Kn (addA "a" K) ∧ (addA "a" K).any (fun z => deq z (.str "a")) = true ∧ (addA "a" K).any (fun z => deq z (.str "b")) = K.any (fun z => deq z (.str "b")) := by
  rcases h with rfl | rfl | rfl | rfl | rfl <;> simp [addA, Kn, dqs]
theorem kn_b {K : List D} (h : Kn K) : Kn (addA "b" K) ∧ (addA "b" K).any (fun z => deq z (.str "b")) = true ∧ (addA "b" K).any (fun z => deq z (.str "a")) = K.any (fun z => deq z (.str "a")) := by
  rcases h with rfl | rfl | rfl | rfl | rfl <;> simp [addA, Kn, dqs]
theorem atm_kn : ∀ {n : Nat} {t : D}, Ty n t → ∀ {K : List D}, Kn K → Kn (atm n t K) ∧ (atm n t K).any (fun z => deq z (.str "a")) = (hasS "a" n t || K.any (fun z => deq z (.str "a"))) ∧ (atm n t K).any (fun z => deq z (.str "b")) = (hasS "b" n t || K.any (fun z => deq z (.str "b"))) := by
  intro n t h
  induction h with
  | a =>
    intro K hK
    obtain ⟨h1, h2, h3⟩ := kn_a hK
    rw [atm_a, has_a, has_a]
    exact ⟨h1, by rw [h2]; simp, by rw [h3]; simp⟩
  | b =>
    intro K hK
    obtain ⟨h1, h2, h3⟩ := kn_b hK
    rw [atm_a, has_a, has_a]
    exact ⟨h1, by rw [h3]; simp, by rw [h2]; simp⟩
  | one =>
    intro K hK
    rw [atm_1, has_1, has_1]
    exact ⟨hK, by simp, by simp⟩
  | @mk n w x y hw hx hy ix iy =>
    intro K hK
    obtain ⟨a1, a2, a3⟩ := iy hK
    obtain ⟨b1, b2, b3⟩ := ix a1
    refine ⟨b1, ?_, ?_⟩
    · show (atm n x (atm n y K)).any _ = ((hasS "a" n x || hasS "a" n y) || _)
      rw [b2, a2, Bool.or_assoc]
    · show (atm n x (atm n y K)).any _ = ((hasS "b" n x || hasS "b" n y) || _)
      rw [b3, a3, Bool.or_assoc]
theorem kn_ok {K : List D} (h : Kn K) (n : Nat) : okL n K = true := by
  rcases h with rfl | rfl | rfl | rfl | rfl <;> simp [okL, ok]
def at1 (K : List D) : D → List D
  | .tup [_, .str s] => addA s K
  | _ => K
theorem step9 (φ : Nat → FT) (th a : Option SD) (E K : List D) {n : Nat} {t : D} (h : Ty n t) (hE : E.length ≤ 10000) (hK : Kn K) :
    lb_9_0 φ [th, some (.own (.lst (E ++ [t]))), some (.own (.lst K)), a] = .nx [th, some (.own (.lst (E ++ tl2 t))), some (.own (.lst (at1 K t))), some (.val t)] := by
  have h5 : E.length + 2 ≤ 16777216 := by omega
  have h6 : E.length + 1 + 1 ≤ 16777216 := by omega
  have h7 : E.length + (1 + 1) ≤ 16777216 := by omega
  cases h with
  | a => rcases hK with rfl | rfl | rfl | rfl | rfl <;> simp [runB, sSeq, sSet, sFz, sLs, sCons, sNil, sTup, sVar, sC, sRet, sOp, sHn, sHv, res, look, opAdd, ofOpt, O.bind, O.bindS, startS, inSlot, LIM, outsAt, outOf, sIsi, isX, isT, tyN, isA, sItL, sItT, gT, gC, gN, gZ, sTru, tru, sIfS, sOrT, sAndT, sNotT, sB, sAnd, sOr, sNot, sIf, sUn, fLen, sCall, sACons, sAv, sAs, sANil, slots, argsOf, argOf, putBack, put1, sPart, sExpr, lb_9_0, tl2, at1, itemsOf, sPop, sApp, curL, cei, ces, opIx, atI, ixN, cNotIn, inD, ok, okL, dqs, addA]
  | b => rcases hK with rfl | rfl | rfl | rfl | rfl <;> simp [runB, sSeq, sSet, sFz, sLs, sCons, sNil, sTup, sVar, sC, sRet, sOp, sHn, sHv, res, look, opAdd, ofOpt, O.bind, O.bindS, startS, inSlot, LIM, outsAt, outOf, sIsi, isX, isT, tyN, isA, sItL, sItT, gT, gC, gN, gZ, sTru, tru, sIfS, sOrT, sAndT, sNotT, sB, sAnd, sOr, sNot, sIf, sUn, fLen, sCall, sACons, sAv, sAs, sANil, slots, argsOf, argOf, putBack, put1, sPart, sExpr, lb_9_0, tl2, at1, itemsOf, sPop, sApp, curL, cei, ces, opIx, atI, ixN, cNotIn, inD, ok, okL, dqs, addA]
  | one => simp [runB, sSeq, sSet, sFz, sLs, sCons, sNil, sTup, sVar, sC, sRet, sOp, sHn, sHv, res, look, opAdd, ofOpt, O.bind, O.bindS, startS, inSlot, LIM, outsAt, outOf, sIsi, isX, isT, tyN, isA, sItL, sItT, gT, gC, gN, gZ, sTru, tru, sIfS, sOrT, sAndT, sNotT, sB, sAnd, sOr, sNot, sIf, sUn, fLen, sCall, sACons, sAv, sAs, sANil, slots, argsOf, argOf, putBack, put1, sPart, sExpr, lb_9_0, tl2, at1, itemsOf, sPop, sApp, curL, cei, ces, opIx, atI, ixN, cNotIn, inD, ok, okL, dqs, addA]
  | mk hw hx hy => rcases hw with rfl | rfl | rfl <;> simp [runB, sSeq, sSet, sFz, sLs, sCons, sNil, sTup, sVar, sC, sRet, sOp, sHn, sHv, res, look, opAdd, ofOpt, O.bind, O.bindS, startS, inSlot, LIM, outsAt, outOf, sIsi, isX, isT, tyN, isA, sItL, sItT, gT, gC, gN, gZ, sTru, tru, sIfS, sOrT, sAndT, sNotT, sB, sAnd, sOr, sNot, sIf, sUn, fLen, sCall, sACons, sAv, sAs, sANil, slots, argsOf, argOf, putBack, put1, sPart, sExpr, lb_9_0, tl2, at1, itemsOf, sPop, sApp, curL, cei, ces, opIx, atI, ixN, cNotIn, inD, ok, okL, dqs, addA, sExt, sSl, opSl, cut_1, h5, h6, h7]
theorem run9 (φ : Nat → FT) {n : Nat} {t : D} (h : Ty n t) : n ≤ 100 → ∀ (th a : Option SD) (E K : List D), okL 199 E = true → E.length + 10 * n ≤ 9000 → Kn K →
    ∃ a', ∀ f, sWhile cnd1 (lb_9_0 φ) (f + sz n t) [th, some (.own (.lst (E ++ [t]))), some (.own (.lst K)), a] = sWhile cnd1 (lb_9_0 φ) f [th, some (.own (.lst E)), some (.own (.lst (atm n t K))), a'] := by
  have one : ∀ {n : Nat} {t : D}, Ty n t → n ≤ 100 → sz n t = 1 → tl2 t = [] → (∀ K, atm n t K = at1 K t) → ∀ (th a : Option SD) (E K : List D), okL 199 E = true → E.length + 10 * n ≤ 9000 → Kn K →
      ∃ a', ∀ f, sWhile cnd1 (lb_9_0 φ) (f + sz n t) [th, some (.own (.lst (E ++ [t]))), some (.own (.lst K)), a] = sWhile cnd1 (lb_9_0 φ) f [th, some (.own (.lst E)), some (.own (.lst (atm n t K))), a'] := fun {n t} h hn h1 h2 h3 th a E K hE hl hK => by
    refine ⟨some (.val t), fun f => ?_⟩
    have st := step9 φ th a E K h (by omega) hK
    rw [h2, List.append_nil, ← h3 K] at st
    rw [h1]
    exact while_go (cndT hE (ok_mono (by omega) (oks_ok h.oks))) st
  induction h with
  | @a n => intro hn; exact one .a hn (by cases n <;> rfl) rfl (fun K => by cases n <;> rfl)
  | @b n => intro hn; exact one .b hn (by cases n <;> rfl) rfl (fun K => by cases n <;> rfl)
  | @one n => intro hn; exact one .one hn (by cases n <;> rfl) rfl (fun K => by cases n <;> rfl)
  | @mk n w x y hw hx hy ix iy =>
    intro hn th a E K hE hl hK
    have hT : Ty (n + 1) (.tup [.str w, x, y]) := .mk hw hx hy
    have ox : ok 199 x = true := ok_mono (by omega) (oks_ok hx.oks)
    have oEx : okL 199 (E ++ [x]) = true := okL_app.mpr ⟨hE, by simp only [okL, ox, Bool.and_self]⟩
    obtain ⟨b1, e1⟩ := iy (by omega) th (some (.val (.tup [.str w, x, y]))) (E ++ [x]) K oEx (by simp; omega) hK
    obtain ⟨b2, e2⟩ := ix (by omega) th b1 E (atm n y K) hE (by omega) (atm_kn hy hK).1
    refine ⟨b2, fun f => ?_⟩
    have st := step9 φ th a E K hT (by omega) hK
    show sWhile cnd1 (lb_9_0 φ) (f + (1 + sz n x + sz n y)) _ = _
    rw [show f + (1 + sz n x + sz n y) = (f + sz n x + sz n y) + 1 by omega]
    refine (while_go (cndT hE (ok_mono (by omega) (oks_ok hT.oks))) st).trans ?_
    have e1 := e1 (f + sz n x)
    have e2 := e2 f
    rw [show E ++ tl2 (D.tup [.str w, x, y]) = (E ++ [x]) ++ [y] by simp [tl2], show at1 K (D.tup [.str w, x, y]) = K by cases x <;> rfl]
    exact e1.trans e2
def atx : Bool → Bool → Str
  | false, false => ""
  | true, false => "a"
  | false, true => "b"
  | true, true => "ab"
theorem jz {ds : List D} {ys : List Str} {z : Str} (h1 : strsOf ds = some ys) (h2 : (ys.map (·.length)).sum + ys.length * ("" : Str).length ≤ 16777216) (h3 : Txt.join "" ys = z) : joinD "" ds = some (.str z) := by
  unfold joinD
  rw [h1]
  show (if _ then _ else _) = _
  rw [if_pos h2, h3]
theorem j0 : joinD "" [] = some (.str "") := jz (ys := []) rfl (by decide +kernel) (by decide +kernel)
theorem j1 : joinD "" [.str "a"] = some (.str "a") := jz (ys := [("a" : Str)]) rfl (by decide +kernel) (by decide +kernel)
theorem j2 : joinD "" [.str "b"] = some (.str "b") := jz (ys := [("b" : Str)]) rfl (by decide +kernel) (by decide +kernel)
theorem j3 : joinD "" [.str "a", .str "b"] = some (.str "ab") := jz (ys := [("a" : Str), ("b" : Str)]) rfl (by decide +kernel) (by decide +kernel)
theorem fin9 (th a : Option SD) {K : List D} (h : Kn K) : (sJoin (sC (.str "")) (sHv (sFz (sSorted (sHn 2))))) [th, some (.own (.lst [])), some (.own (.lst K)), a] = .ok (.str (atx (K.any (fun z => deq z (.str "a"))) (K.any (fun z => deq z (.str "b"))))) [th, some (.own (.lst [])), some (.own (.lst K)), a] := by
  have s0 : sortT [] = [] := rfl
  have s1 : sortT [("a" : Str)] = [("a" : Str)] := rfl
  have s2 : sortT [("b" : Str)] = [("b" : Str)] := rfl
  have s3 : sortT [("a" : Str), ("b" : Str)] = [("a" : Str), ("b" : Str)] := by decide +kernel
  have s4 : sortT [("b" : Str), ("a" : Str)] = [("a" : Str), ("b" : Str)] := by decide +kernel
  rcases h with rfl | rfl | rfl | rfl | rfl <;> simp [runB, sSeq, sSet, sFz, sLs, sCons, sNil, sTup, sVar, sC, sRet, sOp, sHn, sHv, res, look, opAdd, ofOpt, O.bind, O.bindS, startS, inSlot, LIM, outsAt, outOf, sIsi, isX, isT, tyN, isA, sItL, sItT, gT, gC, gN, gZ, sTru, tru, sIfS, sOrT, sAndT, sNotT, sB, sAnd, sOr, sNot, sIf, sUn, fLen, sCall, sACons, sAv, sAs, sANil, slots, argsOf, argOf, putBack, put1, sPart, sExpr, sJoin, sSorted, strsOf, s0, s1, s2, s3, s4, opJoin, j0, j1, j2, j3, atx, dqs, show (("a" : Str) == "b") = false by decide +kernel, show (("b" : Str) == "a") = false by decide +kernel]
theorem P_own_atoms (k : Nat) {n : Nat} {t : D} (h : Ty n t) (hn : n ≤ 10) : Φ (k + 1) 9 [.val t] = .ok (.str (atx (hasS "a" n t) (hasS "b" n t))) [.val t] := by
  have hs := sz_le n t
  have : 2 ^ (n + 1) ≤ 2 ^ 11 := Nat.pow_le_pow_right (by decide) (by omega)
  obtain ⟨a', e⟩ := run9 (Φ k) h (by omega) (some (.val t)) none [] [] (by simp [okL]) (by simp; omega) (.inl rfl)
  have e := e (3000 - sz n t)
  rw [List.nil_append] at e
  rw [show 3000 - sz n t + sz n t = 3000 by omega] at e
  obtain ⟨g, hg⟩ : ∃ g, 3000 - sz n t = g + 1 := ⟨2999 - sz n t, by omega⟩
  rw [hg, while_end (show cnd1 [some (.val t), some (.own (.lst [])), some (.own (.lst (atm n t []))), a'] = .ok false _ from cond_t (E := []) rfl (by simp [okL]))] at e
  have e : lw_9_0 (Φ k) [some (.val t), some (.own (.lst [t])), some (.own (.lst [])), none] = .nx [some (.val t), some (.own (.lst [])), some (.own (.lst (atm n t []))), a'] := e
  obtain ⟨q1, q2, q3⟩ := atm_kn h (K := []) (.inl rfl)
  have f := fin9 (some (.val t)) a' q1
  rw [q2, q3] at f
  simp only [List.any_nil, Bool.or_false] at f
  show runB 4 1 (m_9 (Φ k)) _ = _
  unfold m_9
  refine runB_rt (σ := [some (.val t), some (.own (.lst [])), some (.own (.lst (atm n t []))), a']) rfl ?_ rfl
  refine (seq_nx (σ1 := [some (.val t), some (.own (.lst [t])), some (.own (.lst [])), none]) (by simp [runB, sSeq, sSet, sFz, sLs, sCons, sNil, sTup, sVar, sC, sRet, sOp, sHn, sHv, res, look, opAdd, ofOpt, O.bind, O.bindS, startS, inSlot, LIM, outsAt, outOf, sIsi, isX, isT, tyN, isA, sItL, sItT, gT, gC, gN, gZ, sTru, tru, sIfS, sOrT, sAndT, sNotT, sB, sAnd, sOr, sNot, sIf, sUn, fLen, sCall, sACons, sAv, sAs, sANil, slots, argsOf, argOf, putBack, put1, sPart, sExpr, sMany, sMF, sMV, sMNil, setMany])).trans ?_
  refine (seq_nx e).trans ?_
  unfold sRet
  rw [f]; rfl
theorem P_atoms (k : Nat) {n : Nat} {t : D} (h : Ty n t) (hn : n ≤ 4) : Φ (k + 5) 10 [.val t] = .ok (.str (atx (hasS "a" n t) (hasS "b" n t))) [.val t] := by
  have e1 := P_need k (oks_mono (by omega) h.oks)
  rw [h.wr hn] at e1
  have e2 := P_own_atoms (k + 3) h (by omega)
  show runB 1 1 (m_10 (Φ (k + 4))) _ = _
  simp [runB, sSeq, sSet, sFz, sLs, sCons, sNil, sTup, sVar, sC, sRet, sOp, sHn, sHv, res, look, opAdd, ofOpt, O.bind, O.bindS, startS, inSlot, LIM, outsAt, outOf, sIsi, isX, isT, tyN, isA, sItL, sItT, gT, gC, gN, gZ, sTru, tru, sIfS, sOrT, sAndT, sNotT, sB, sAnd, sOr, sNot, sIf, sUn, fLen, sCall, sACons, sAv, sAs, sANil, slots, argsOf, argOf, putBack, put1, sPart, sExpr, m_10, e1, e2]
end LW

set_option Elab.async false
set_option linter.all false
set_option maxRecDepth 100000
set_option maxHeartbeats 4000000
namespace LW
open PySem L2 TL PyProof.Rows
/-! ### what repr shows of a type -/
def txt (d : D) : Str := match toP d with
  | some p => p.shown
  | none => ""
theorem ty_toP {n : Nat} {t : D} (h : Ty n t) : ∃ p, toP t = some p := by
  obtain ⟨p, e, _⟩ := ok_toP (oks_ok h.oks)
  exact ⟨p, e⟩
def preL (w : Str) : List Nat := ("(" : Str).cps.toList ++ ((PySem.reprText w).cps.toList ++ (", " : Str).cps.toList)
theorem txt_mk {w : Str} {x y : D} {p q : PyData} (hx : toP x = some p) (hy : toP y = some q) : (txt (.tup [.str w, x, y])).cps.toList = preL w ++ ((txt x).cps.toList ++ ((", " : Str).cps.toList ++ ((txt y).cps.toList ++ (")" : Str).cps.toList))) := by
  have e : toP (.tup [.str w, x, y]) = some (.tuple [.str w, p, q]) := by simp only [toP, toPL, hx, hy, Option.map_some]
  unfold txt
  rw [e, hx, hy]
  dsimp only
  rw [PyData.shown_tuple, PyData.shownAll_cons, PyData.shownAll_cons, PyData.shownAll_cons, PyData.shownAll_nil, PyData.shown_str, join3]
  rw [show ((if ([PyData.str w, p, q]).length == 1 then ",)" else ")" : String) : Str) = ((")" : String) : Str) from rfl]
  simp only [cps_app, preL, List.append_assoc]
theorem txt_a (s : Str) : txt (.tup [.str "atom", .str s]) = (PyData.tuple [.str "atom", .str s]).shown := rfl
theorem txt_1 (s : Str) : txt (.tup [.str s]) = (PyData.tuple [.str s]).shown := rfl
theorem aL : (PyData.tuple [.str "atom", .str "a"]).shown.cps.toList = [40, 39, 97, 116, 111, 109, 39, 44, 32, 39, 97, 39, 41] := by decide +kernel
theorem bL : (PyData.tuple [.str "atom", .str "b"]).shown.cps.toList = [40, 39, 97, 116, 111, 109, 39, 44, 32, 39, 98, 39, 41] := by decide +kernel
theorem oneL : (PyData.tuple [.str "one"]).shown.cps.toList = [40, 39, 111, 110, 101, 39, 44, 41] := by decide +kernel
theorem bothL : preL "both" = [40, 39, 98, 111, 116, 104, 39, 44, 32] := by decide +kernel
theorem eitherL : preL "either" = [40, 39, 101, 105, 116, 104, 101, 114, 39, 44, 32] := by decide +kernel
theorem toL : preL "to" = [40, 39, 116, 111, 39, 44, 32] := by decide +kernel
theorem commaL : (", " : Str).cps.toList = [44, 32] := by decide +kernel
theorem closeL : (")" : Str).cps.toList = [41] := by decide +kernel
/-! signs read one by one: 3 where 'c' in its marks has been read -/
def sp (c q ch : Nat) : Nat := if q = 3 then 3 else if ch = 39 then (if q = 2 then 3 else 1) else if q = 1 ∧ ch = c then 2 else 0
def rn (c q : Nat) (l : List Nat) : Nat := l.foldl (sp c) q
theorem rn_app (c q : Nat) (l m : List Nat) : rn c q (l ++ m) = rn c (rn c q l) m := List.foldl_append
theorem rn_3 (c : Nat) : ∀ l, rn c 3 l = 3
  | [] => rfl
  | x :: l => by show rn c (sp c 3 x) l = 3; rw [show sp c 3 x = 3 from rfl]; exact rn_3 c l
theorem sp_le (c q ch : Nat) (h : q ≤ 3) : sp c q ch ≤ 3 := by unfold sp; split <;> (try split) <;> (try split) <;> omega
theorem rn_le (c : Nat) : ∀ (l : List Nat) (q : Nat), q ≤ 3 → rn c q l ≤ 3
  | [], q, h => h
  | x :: l, q, h => rn_le c l _ (sp_le c q x h)
def code : Bool → Nat
  | true => 97
  | false => 98
def sg : Bool → Str
  | true => "a"
  | false => "b"
theorem none_in {n : Nat} {t : D} (h : Ty n t) (z : Bool) : hasS (sg z) n t = false → ∀ q, q < 3 → rn (code z) q (txt t).cps.toList = 0 := by
  induction h with
  | a =>
    intro hz q hq
    rw [has_a] at hz
    rw [txt_a, aL]
    cases z with
    | true => exact absurd hz (by decide +kernel)
    | false => rcases (by omega : q = 0 ∨ q = 1 ∨ q = 2) with rfl | rfl | rfl <;> decide +kernel
  | b =>
    intro hz q hq
    rw [has_a] at hz
    rw [txt_a, bL]
    cases z with
    | false => exact absurd hz (by decide +kernel)
    | true => rcases (by omega : q = 0 ∨ q = 1 ∨ q = 2) with rfl | rfl | rfl <;> decide +kernel
  | one =>
    intro hz q hq
    rw [txt_1, oneL]
    cases z <;> rcases (by omega : q = 0 ∨ q = 1 ∨ q = 2) with rfl | rfl | rfl <;> decide +kernel
  | @mk n w x y hw hx hy ix iy =>
    intro hz q hq
    have hz : (hasS (sg z) n x || hasS (sg z) n y) = false := hz
    rw [Bool.or_eq_false_iff] at hz
    obtain ⟨p1, e1⟩ := ty_toP hx
    obtain ⟨p2, e2⟩ := ty_toP hy
    have hp : rn (code z) q (preL w) = 0 := by
      rcases hw with rfl | rfl | rfl
      · rw [bothL]; cases z <;> rcases (by omega : q = 0 ∨ q = 1 ∨ q = 2) with rfl | rfl | rfl <;> decide +kernel
      · rw [eitherL]; cases z <;> rcases (by omega : q = 0 ∨ q = 1 ∨ q = 2) with rfl | rfl | rfl <;> decide +kernel
      · rw [toL]; cases z <;> rcases (by omega : q = 0 ∨ q = 1 ∨ q = 2) with rfl | rfl | rfl <;> decide +kernel
    rw [txt_mk e1 e2, rn_app, hp, rn_app, ix hz.1 0 (by decide), rn_app, commaL, closeL, show rn (code z) 0 [44, 32] = 0 by cases z <;> decide +kernel, rn_app, iy hz.2 0 (by decide)]
    cases z <;> decide +kernel
theorem some_in {n : Nat} {t : D} (h : Ty n t) (z : Bool) : hasS (sg z) n t = true → ∃ a b, (txt t).cps.toList = a ++ (txt (.tup [.str "atom", .str (sg z)])).cps.toList ++ b := by
  induction h with
  | a =>
    intro hz
    rw [has_a] at hz
    have : ("a" : Str) = sg z := eq_of_beq hz
    rw [← this]
    exact ⟨[], [], by simp⟩
  | b =>
    intro hz
    rw [has_a] at hz
    have : ("b" : Str) = sg z := eq_of_beq hz
    rw [← this]
    exact ⟨[], [], by simp⟩
  | one => intro hz; rw [has_1] at hz; cases hz
  | @mk n w x y hw hx hy ix iy =>
    intro hz
    have hz : (hasS (sg z) n x || hasS (sg z) n y) = true := hz
    obtain ⟨p1, e1⟩ := ty_toP hx
    obtain ⟨p2, e2⟩ := ty_toP hy
    rw [txt_mk e1 e2]
    rcases Bool.or_eq_true _ _ |>.mp hz with hz | hz
    · obtain ⟨a, b, e⟩ := ix hz
      rw [e]
      exact ⟨preL w ++ a, b ++ ((", " : Str).cps.toList ++ ((txt y).cps.toList ++ (")" : Str).cps.toList)), by simp only [List.append_assoc]⟩
    · obtain ⟨a, b, e⟩ := iy hz
      rw [e]
      exact ⟨preL w ++ ((txt x).cps.toList ++ ((", " : Str).cps.toList ++ a)), b ++ (")" : Str).cps.toList, by simp only [List.append_assoc]⟩
theorem sub_ty {n : Nat} {t : D} (h : Ty n t) (z : Bool) : hasSub (txt t) (txt (.tup [.str "atom", .str (sg z)])) = hasS (sg z) n t := by
  cases e : hasS (sg z) n t with
  | true => exact hasSub_iff.mpr (some_in h z e)
  | false =>
    cases e2 : hasSub (txt t) (txt (.tup [.str "atom", .str (sg z)])) with
    | false => rfl
    | true =>
      obtain ⟨a, b, e3⟩ := hasSub_iff.mp e2
      have h0 := none_in h z e 0 (by decide)
      rw [e3, rn_app, rn_app] at h0
      have hl := rn_le (code z) a 0 (by decide)
      have h3 : rn (code z) (rn (code z) 0 a) (txt (.tup [.str "atom", .str (sg z)])).cps.toList = 3 := by
        generalize rn (code z) 0 a = q at hl
        cases z with
        | true => rw [show sg true = "a" from rfl, txt_a, aL]; rcases (by omega : q = 0 ∨ q = 1 ∨ q = 2 ∨ q = 3) with rfl | rfl | rfl | rfl <;> decide +kernel
        | false => rw [show sg false = "b" from rfl, txt_a, bL]; rcases (by omega : q = 0 ∨ q = 1 ∨ q = 2 ∨ q = 3) with rfl | rfl | rfl | rfl <;> decide +kernel
      rw [h3, rn_3] at h0
      cases h0
theorem sm_w : small (.str "atom") = true ∧ small (.str "a") = true ∧ small (.str "b") = true ∧ small (.str "one") = true ∧ small (.str "both") = true ∧ small (.str "either") = true ∧ small (.str "to") = true := by decide +kernel
theorem bk_w : bulkD (.str "atom") = 4 ∧ bulkD (.str "a") = 1 ∧ bulkD (.str "b") = 1 ∧ bulkD (.str "one") = 3 ∧ bulkD (.str "both") = 4 ∧ bulkD (.str "either") = 6 ∧ bulkD (.str "to") = 2 := by decide +kernel
theorem Ty.small {n : Nat} {t : D} (h : Ty n t) : small t = true ∧ bulkD t + 9 ≤ 16 * 2 ^ n := by
  obtain ⟨s1, s2, s3, s4, s5, s6, s7⟩ := sm_w
  obtain ⟨b1, b2, b3, b4, b5, b6, b7⟩ := bk_w
  have pos : ∀ n : Nat, 1 ≤ 2 ^ n := fun n => Nat.one_le_two_pow
  induction h with
  | @a n => have := pos n; exact ⟨by show (TL.small (.str "atom") && (TL.small (.str "a") && true)) = true; rw [s1, s2]; rfl, by show (bulkD (.str "atom") + 1 + (bulkD (.str "a") + 1 + 0)) + 9 ≤ _; rw [b1, b2]; omega⟩
  | @b n => have := pos n; exact ⟨by show (TL.small (.str "atom") && (TL.small (.str "b") && true)) = true; rw [s1, s3]; rfl, by show (bulkD (.str "atom") + 1 + (bulkD (.str "b") + 1 + 0)) + 9 ≤ _; rw [b1, b3]; omega⟩
  | @one n => have := pos n; exact ⟨by show (TL.small (.str "one") && true) = true; rw [s4]; rfl, by show (bulkD (.str "one") + 1 + 0) + 9 ≤ _; rw [b4]; omega⟩
  | @mk n w x y hw hx hy ix iy =>
    have e : 2 ^ (n + 1) = 2 ^ n * 2 := Nat.pow_succ 2 n
    have hb : bulkD (.str w) ≤ 6 := by rcases hw with rfl | rfl | rfl <;> omega
    refine ⟨?_, ?_⟩
    · have hs : TL.small (.str w) = true := by rcases hw with rfl | rfl | rfl <;> assumption
      show (TL.small (.str w) && (TL.small x && (TL.small y && true))) = true
      rw [hs, ix.1, iy.1]; rfl
    · have h1 := ix.2
      have h2 := iy.2
      show (bulkD (.str w) + 1 + (bulkD x + 1 + (bulkD y + 1 + 0))) + 9 ≤ _
      omega
theorem seq_ty {n : Nat} {t : D} (h : Ty n t) : isSeqD t = true := by cases h <;> rfl
theorem repr_ty {n : Nat} {t : D} (h : Ty n t) (hn : n ≤ 10) : fReprA t = some (.str (txt t)) := by
  obtain ⟨p, e⟩ := ty_toP h
  have h2 := h.small.2
  have : 2 ^ n ≤ 2 ^ 10 := Nat.pow_le_pow_right (by decide) hn
  have z := fRepr_shown (ok_mono (by omega) (oks_ok h.oks)) (seq_ty h) h.small.1 (by omega) e
  have : txt t = p.shown := by unfold txt; rw [e]
  rw [this, ← z]
  cases h <;> rfl
theorem repr_at (z : Bool) : fReprA (.tup [.str "atom", .str (sg z)]) = some (.str (txt (.tup [.str "atom", .str (sg z)]))) := by
  cases z
  · exact repr_ty (Ty.b (n := 0)) (by decide)
  · exact repr_ty (Ty.a (n := 0)) (by decide)
theorem abL : ("ab" : Str).cps.toList = [97, 98] := by decide +kernel
theorem compA {n : Nat} {t : D} (h : Ty n t) (hn : n ≤ 10) (s0 s1 s2 s3 s5 s6 s7 s8 s9 s10 s11 s12 : Option SD) (hs : s12 = none ∨ ∃ x, s12 = some (.val x)) :
    (sJoin (sC (.str "")) (sHv (sFz (sLc [12] (sItS (sC (.str "ab"))) (gN 12) (sB (sOp cIn (sHv (sUn fReprA (sHv (sTup (sCons (sC (.str "atom")) (sCons (sVar 12) sNil)))))) (sHv (sUn fReprA (sHn 4))))) (sVar 12))))) [s0, s1, s2, s3, some (.val t), s5, s6, s7, s8, s9, s10, s11, s12] = .ok (.str (atx (hasS "a" n t) (hasS "b" n t))) [s0, s1, s2, s3, some (.val t), s5, s6, s7, s8, s9, s10, s11, s12] := by
  have e := repr_ty h hn
  have ea := repr_at true
  have eb := repr_at false
  have sa := sub_ty h true
  have sb := sub_ty h false
  have c97 : (⟨#[97]⟩ : Str) = "a" := by decide +kernel
  have c98 : (⟨#[98]⟩ : Str) = "b" := by decide +kernel
  have ga : sg true = "a" := rfl
  have gb : sg false = "b" := rfl
  rw [ga] at ea sa
  rw [gb] at eb sb
  generalize txt (.tup [.str "atom", .str "a"]) = ta at ea sa
  generalize txt (.tup [.str "atom", .str "b"]) = tb at eb sb
  generalize txt t = tt at e sa sb
  cases ha : hasS "a" n t <;> cases hb : hasS "b" n t <;> rw [ha] at sa <;> rw [hb] at sb <;> rcases hs with rfl | ⟨x, rfl⟩ <;>
    simp [runB, sSeq, sSet, sFz, sLs, sCons, sNil, sTup, sVar, sC, sRet, sOp, sHn, sHv, res, look, opAdd, ofOpt, O.bind, O.bindS, startS, inSlot, LIM, outsAt, outOf, sIsi, isX, isT, tyN, isA, sItL, sItT, gT, gC, gN, gZ, sTru, tru, sIfS, sOrT, sAndT, sNotT, sB, sAnd, sOr, sNot, sIf, sUn, fLen, sCall, sACons, sAv, sAs, sANil, slots, argsOf, argOf, putBack, put1, sPart, sExpr, sJoin, sLc, sLcL, sItS, abL, c97, c98, plainAt, wipeS, bringS, e, ea, eb, cIn, inD, sa, sb, opJoin, j0, j1, j2, j3, atx]
end LW

set_option Elab.async false
set_option linter.all false
set_option maxRecDepth 100000
namespace LW
open PySem PySem.Spec PyProof.Rows L2 TL
def u_20_3 (φ : Nat → FT) : SS → OS := (sRet (sOp opIx (sHn 2) (sHv (sCall (φ 15) [] (sACons (sAs 0) (sACons (sAv (sC (.int 18))) sANil))))))
abbrev t_20_3 (φ : Nat → FT) : SS → OS := u_20_3 φ
def u_20_2 (φ : Nat → FT) : SS → OS := (sSet 2 (sOp opAdd (sHn 2) (sHv (sFz (sLs (sCons (sTup (sCons (sC (.str "to")) (sCons (sVar 1) (sCons (sVar 1) (sCons (sVar 1) sNil))))) (sCons (sTup (sCons (sC (.str "not")) (sCons (sVar 1) sNil))) (sCons (sFz (sLs (sCons (sC (.str "one")) sNil))) (sCons (sTup (sCons (sC (.str "either")) (sCons (sVar 1) (sCons (sC .non) sNil)))) (sCons (sFz (sLstOf (sHn 1))) (sCons (sTup (sCons (sC (.str "one")) sNil)) (sCons (sVar 1) sNil))))))))))))
def t_20_2 (φ : Nat → FT) : SS → OS := sSeq (u_20_2 φ) (t_20_3 φ)
def u_20_1 (φ : Nat → FT) : SS → OS := (sSet 2 (sFz (sLs (sCons (sC .non) (sCons (sC (.int 5)) (sCons (sC (.str "a")) (sCons (sTup sNil) (sCons (sTup (sCons (sC (.str "one")) (sCons (sTup sNil) sNil))) (sCons (sTup (sCons (sC (.str "atom")) (sCons (sC (.str "g")) sNil))) (sCons (sTup (sCons (sC (.str "atom")) (sCons (sC (.str "ab")) sNil))) (sCons (sTup (sCons (sC (.str "atom")) (sCons (sC (.str "")) sNil))) (sCons (sTup (sCons (sC (.str "atom")) (sCons (sC (.int 5)) sNil))) (sCons (sTup (sCons (sC (.str "atom")) sNil)) (sCons (sTup (sCons (sC (.str "both")) (sCons (sVar 1) sNil))) sNil))))))))))))))
def t_20_1 (φ : Nat → FT) : SS → OS := sSeq (u_20_1 φ) (t_20_2 φ)
def c_20_0 (φ : Nat → FT) : SS → O Bool := (sAndT (sB (sOp cEq (sHv (sUn fLen (sHn 1))) (sHv (sC (.int 3))))) (sB (sOp cGt (sHv (sCall (φ 15) [] (sACons (sAs 0) (sACons (sAv (sC (.int 3))) sANil)))) (sHv (sC (.int 0))))))
def u_20_0a1 (φ : Nat → FT) : SS → OS := (sRet (sTup (sCons (sOp opIx (sHn 1) (sHv (sC (.int 0)))) (sCons (sOp opIx (sHn 1) (sHv (sC (.int 1)))) (sCons (sCall (φ 20) [] (sACons (sAs 0) (sACons (sAv (sOp opIx (sHn 1) (sHv (sC (.int 2))))) sANil))) sNil)))))
abbrev t_20_0a1 (φ : Nat → FT) : SS → OS := u_20_0a1 φ
def c_20_0a0 (φ : Nat → FT) : SS → O Bool := (sB (sOp cEq (sHv (sCall (φ 15) [] (sACons (sAs 0) (sACons (sAv (sC (.int 2))) sANil)))) (sHv (sC (.int 0)))))
def u_20_0a0a0 (φ : Nat → FT) : SS → OS := (sRet (sTup (sCons (sOp opIx (sHn 1) (sHv (sC (.int 0)))) (sCons (sCall (φ 20) [] (sACons (sAs 0) (sACons (sAv (sOp opIx (sHn 1) (sHv (sC (.int 1))))) sANil))) (sCons (sOp opIx (sHn 1) (sHv (sC (.int 2)))) sNil)))))
abbrev t_20_0a0a0 (φ : Nat → FT) : SS → OS := u_20_0a0a0 φ
def u_20_0a0 (φ : Nat → FT) : SS → OS := sIfS (c_20_0a0 φ) (t_20_0a0a0 φ) (fun σ => .nx σ)
def t_20_0a0 (φ : Nat → FT) : SS → OS := sSeq (u_20_0a0 φ) (t_20_0a1 φ)
def u_20_0 (φ : Nat → FT) : SS → OS := sIfS (c_20_0 φ) (t_20_0a0 φ) (fun σ => .nx σ)
def t_20_0 (φ : Nat → FT) : SS → OS := sSeq (u_20_0 φ) (t_20_1 φ)
theorem m_20_e (φ : Nat → FT) : m_20 φ = t_20_0 φ := rfl
def u_21_5 (φ : Nat → FT) : SS → OS := (sRet (sOp opIx (sHn 2) (sHv (sC (.int 0)))))
abbrev t_21_5 (φ : Nat → FT) : SS → OS := u_21_5 φ
def u_21_4 (φ : Nat → FT) : SS → OS := (lw_21_2 φ)
def u_21_4f0 (φ : Nat → FT) : SS → OS := (sOwn 2 (sCat (sHv (sFz (sLc [4] (sRngC (sC (.int 0)) (sOp opSub (sHv (sUn fLen (sHn 2))) (sHv (sC (.int 1)))) (sC (.int 2))) (gN 4) sYes (sTup (sCons (sC (.str "either")) (sCons (sOp opIx (sHn 2) (sHn 4)) (sCons (sOp opIx (sHn 2) (sHv (sOp opAdd (sHn 4) (sHv (sC (.int 1)))))) sNil))))))) (sHv (sSl (sHn 2) (sPart (sOp opSub (sHv (sUn fLen (sHn 2))) (sHv (sOp opMod (sHv (sUn fLen (sHn 2))) (sHv (sC (.int 2))))))) (fun σ => .ok none σ)))))
abbrev t_21_4f0 (φ : Nat → FT) : SS → OS := u_21_4f0 φ
theorem v_21_4 (φ : Nat → FT) : lb_21_2 φ = t_21_4f0 φ := rfl
def t_21_4 (φ : Nat → FT) : SS → OS := sSeq (u_21_4 φ) (t_21_5 φ)
def c_21_3 (φ : Nat → FT) : SS → O Bool := (sB (sOp cEq (sHv (sCall (φ 15) [] (sACons (sAs 0) (sACons (sAv (sC (.int 2))) sANil)))) (sHv (sC (.int 0)))))
def u_21_3a0 (φ : Nat → FT) : SS → OS := (sLput 2 (sOp opIx (sHv (sFz (sLs (sCons (sC (.int 14)) (sCons (sC (.int 15)) (sCons (sOp opSub (sHv (sC (.int 29))) (sHv (sUn fLen (sHn 2)))) (sCons (sNeg (sHv (sC (.int 1)))) sNil))))))) (sHv (sCall (φ 15) [] (sACons (sAs 0) (sACons (sAv (sC (.int 4))) sANil))))) (sC .non))
abbrev t_21_3a0 (φ : Nat → FT) : SS → OS := u_21_3a0 φ
def u_21_3 (φ : Nat → FT) : SS → OS := sIfS (c_21_3 φ) (t_21_3a0 φ) (fun σ => .nx σ)
def t_21_3 (φ : Nat → FT) : SS → OS := sSeq (u_21_3 φ) (t_21_4 φ)
def u_21_2 (φ : Nat → FT) : SS → OS := (sOwn 2 (sRep (sLs (sCons (sVar 1) sNil)) (sOp opAdd (sHv (sC (.int 29))) (sHv (sCall (φ 15) [] (sACons (sAs 0) (sACons (sAv (sC (.int 4))) sANil)))))))
def t_21_2 (φ : Nat → FT) : SS → OS := sSeq (u_21_2 φ) (t_21_3 φ)
def c_21_1 (φ : Nat → FT) : SS → O Bool := (sB (sOp cEq (sHv (sCall (φ 15) [] (sACons (sAs 0) (sACons (sAv (sC (.int 2))) sANil)))) (sHv (sC (.int 0)))))
def u_21_1a1 (φ : Nat → FT) : SS → OS := (sRet (sVar 1))
abbrev t_21_1a1 (φ : Nat → FT) : SS → OS := u_21_1a1 φ
def u_21_1a0 (φ : Nat → FT) : SS → OS := (lf_21_0 φ)
def u_21_1a0f0 (φ : Nat → FT) : SS → OS := (sSet 1 (sIf (sB (sOp cEq (sHv (sOp opMod (sHn 3) (sHv (sC (.int 2))))) (sHv (sC (.int 0))))) (sTup (sCons (sC (.str "to")) (sCons (sVar 1) (sCons (sTup (sCons (sC (.str "one")) sNil)) sNil)))) (sTup (sCons (sC (.str "both")) (sCons (sTup (sCons (sC (.str "one")) sNil)) (sCons (sVar 1) sNil))))))
abbrev t_21_1a0f0 (φ : Nat → FT) : SS → OS := u_21_1a0f0 φ
theorem v_21_1a0 (φ : Nat → FT) : lb_21_0 φ = t_21_1a0f0 φ := rfl
def t_21_1a0 (φ : Nat → FT) : SS → OS := sSeq (u_21_1a0 φ) (t_21_1a1 φ)
def u_21_1 (φ : Nat → FT) : SS → OS := sIfS (c_21_1 φ) (t_21_1a0 φ) (fun σ => .nx σ)
def t_21_1 (φ : Nat → FT) : SS → OS := sSeq (u_21_1 φ) (t_21_2 φ)
def u_21_0 (φ : Nat → FT) : SS → OS := (sSet 1 (sTup (sCons (sC (.str "atom")) (sCons (sC (.str "f")) sNil))))
def t_21_0 (φ : Nat → FT) : SS → OS := sSeq (u_21_0 φ) (t_21_1 φ)
theorem m_21_e (φ : Nat → FT) : m_21 φ = t_21_0 φ := rfl
def u_23_1 (φ φ2 : Nat → FT) : SS → OS := (sRet (sOp cIs (sHv (sCall (φ 6) [] (sACons (sAv (sTup sNil)) sANil))) (sHv (sC .non))))
abbrev t_23_1 (φ φ2 : Nat → FT) : SS → OS := u_23_1 φ φ2
def u_23_0 (φ φ2 : Nat → FT) : SS → OS := (lf_23_9 φ φ2)
def c_23_0f8 (φ φ2 : Nat → FT) : SS → O Bool := (sOrT (sB (sOp cNeS (sHv (sUn fReprA (sHv (sLam N_17.length m_17 (lamRes N_23.length [8] (lm_23_8 φ φ2)) [8])))) (sHv (sUn fReprA (sHv (sTup (sCons (sC (.str "inputs")) (sCons (sC .non) sNil)))))))) (sB (sOp cIsNot (sHv (sCall (φ 6) [] (sACons (sAv (sOp opMul (sHv (sTup (sCons (sVar 4) sNil))) (sHv (sC (.int 6))))) sANil))) (sHv (sC .non)))))
def u_23_0f8a0 (φ φ2 : Nat → FT) : SS → OS := (sRet (sC (.bl false)))
abbrev t_23_0f8a0 (φ φ2 : Nat → FT) : SS → OS := u_23_0f8a0 φ φ2
def u_23_0f8 (φ φ2 : Nat → FT) : SS → OS := sIfS (c_23_0f8 φ φ2) (t_23_0f8a0 φ φ2) (fun σ => .nx σ)
abbrev t_23_0f8 (φ φ2 : Nat → FT) : SS → OS := u_23_0f8 φ φ2
def u_23_0f7 (φ φ2 : Nat → FT) : SS → OS := (sSet 8 (sOp opIx (sHv (sFz (sLs (sCons (sC .non) (sCons (sFz (sLs (sCons (sVar 4) sNil))) (sCons (sC (.str "one")) (sCons (sOp opMul (sHv (sTup (sCons (sVar 4) sNil))) (sHv (sC (.int 7)))) (sCons (sC (.int 5)) sNil)))))))) (sHn 1)))
def t_23_0f7 (φ φ2 : Nat → FT) : SS → OS := sSeq (u_23_0f7 φ φ2) (t_23_0f8 φ φ2)
def c_23_0f6 (φ φ2 : Nat → FT) : SS → O Bool := (sB (sOp cNe (sHv (sCall (φ 10) [] (sACons (sAv (sVar 4)) sANil))) (sHv (sJoin (sC (.str "")) (sHv (sFz (sLc [12] (sItS (sC (.str "ab"))) (gN 12) (sB (sOp cIn (sHv (sUn fReprA (sHv (sTup (sCons (sC (.str "atom")) (sCons (sVar 12) sNil)))))) (sHv (sUn fReprA (sHn 4))))) (sVar 12))))))))
def u_23_0f6a0 (φ φ2 : Nat → FT) : SS → OS := (sRet (sC (.bl false)))
abbrev t_23_0f6a0 (φ φ2 : Nat → FT) : SS → OS := u_23_0f6a0 φ φ2
def u_23_0f6 (φ φ2 : Nat → FT) : SS → OS := sIfS (c_23_0f6 φ φ2) (t_23_0f6a0 φ φ2) (fun σ => .nx σ)
def t_23_0f6 (φ φ2 : Nat → FT) : SS → OS := sSeq (u_23_0f6 φ φ2) (t_23_0f7 φ φ2)
def c_23_0f5 (φ φ2 : Nat → FT) : SS → O Bool := (sOrT (sB (sOp cNe (sHv (sCall (φ 8) [] (sACons (sAv (sVar 4)) sANil))) (sHv (sOp opIx (sHv (sCall (φ 22) [] (sACons (sAv (sVar 4)) sANil))) (sHv (sC (.int 0))))))) (sB (sOp cNeS (sHv (sUn fReprA (sHv (sCall (φ 12) [] (sACons (sAv (sVar 4)) (sACons (sAv (sVar 5)) sANil)))))) (sHv (sUn fReprA (sHv (sOp cLtT (sHv (sCall (φ 22) [] (sACons (sAv (sVar 4)) sANil))) (sHv (sCall (φ 22) [] (sACons (sAv (sVar 5)) sANil))))))))))
def u_23_0f5a0 (φ φ2 : Nat → FT) : SS → OS := (sRet (sC (.bl false)))
abbrev t_23_0f5a0 (φ φ2 : Nat → FT) : SS → OS := u_23_0f5a0 φ φ2
def u_23_0f5 (φ φ2 : Nat → FT) : SS → OS := sIfS (c_23_0f5 φ φ2) (t_23_0f5a0 φ φ2) (fun σ => .nx σ)
def t_23_0f5 (φ φ2 : Nat → FT) : SS → OS := sSeq (u_23_0f5 φ φ2) (t_23_0f6 φ φ2)
def u_23_0f4 (φ φ2 : Nat → FT) : SS → OS := (lf_23_6 φ φ2)
def c_23_0f4f2 (φ φ2 : Nat → FT) : SS → O Bool := (sB (sOp cNe (sHn 9) (sHv (sFz (sLs sNil)))))
def c_23_0f4f2a3 (φ φ2 : Nat → FT) : SS → O Bool := (sB (sOp cNeS (sHv (sUn fReprA (sHn 11))) (sHv (sUn fReprA (sHv (sOp opAdd (sHv (sFz (sRep (sLs (sCons (sTup (sCons (sC (.str "type")) (sCons (sOp opIx (sHn 9) (sHv (sC (.int 0)))) sNil))) sNil)) (sC (.int 4))))) (sHv (sFz (sLs (sCons (sTup (sCons (sC (.str "inputs")) (sCons (sC (.int 1)) sNil))) sNil))))))))))
def u_23_0f4f2a3a0 (φ φ2 : Nat → FT) : SS → OS := (sRet (sC (.bl false)))
abbrev t_23_0f4f2a3a0 (φ φ2 : Nat → FT) : SS → OS := u_23_0f4f2a3a0 φ φ2
def u_23_0f4f2a3 (φ φ2 : Nat → FT) : SS → OS := sIfS (c_23_0f4f2a3 φ φ2) (t_23_0f4f2a3a0 φ φ2) (fun σ => .nx σ)
abbrev t_23_0f4f2a3 (φ φ2 : Nat → FT) : SS → OS := u_23_0f4f2a3 φ φ2
def u_23_0f4f2a2 (φ φ2 : Nat → FT) : SS → OS := (sExpr (sApp 11 (sLam N_17.length m_17 (lamRes N_23.length [5, 7] (lm_23_5 φ φ2)) [5, 7])))
def t_23_0f4f2a2 (φ φ2 : Nat → FT) : SS → OS := sSeq (u_23_0f4f2a2 φ φ2) (t_23_0f4f2a3 φ φ2)
def u_23_0f4f2a1 (φ φ2 : Nat → FT) : SS → OS := (sOwn 11 (sCat (sHn 11) (sHv (sFz (sLs (sCons (sLam N_17.length m_17 (lamRes N_23.length [7] (lm_23_4 φ φ2)) [7]) (sCons (sLam N_17.length m_17 (lamRes N_23.length [4, 7] (lm_23_3 φ φ2)) [4, 7]) sNil)))))))
def t_23_0f4f2a1 (φ φ2 : Nat → FT) : SS → OS := sSeq (u_23_0f4f2a1 φ φ2) (t_23_0f4f2a2 φ φ2)
def u_23_0f4f2a0 (φ φ2 : Nat → FT) : SS → OS := (sOwn 11 (sLs (sCons (sLam N_17.length m_17 (lamRes N_23.length [7] (lm_23_2 φ φ2)) [7]) (sCons (sLam N_17.length m_17 (lamRes N_23.length [7] (lm_23_1 φ φ2)) [7]) sNil))))
def t_23_0f4f2a0 (φ φ2 : Nat → FT) : SS → OS := sSeq (u_23_0f4f2a0 φ φ2) (t_23_0f4f2a1 φ φ2)
def u_23_0f4f2 (φ φ2 : Nat → FT) : SS → OS := sIfS (c_23_0f4f2 φ φ2) (t_23_0f4f2a0 φ φ2) (fun σ => .nx σ)
abbrev t_23_0f4f2 (φ φ2 : Nat → FT) : SS → OS := u_23_0f4f2 φ φ2
def c_23_0f4f1 (φ φ2 : Nat → FT) : SS → O Bool := (sB (sOp cNeS (sHv (sUn fReprA (sHv (sLam N_17.length m_17 (lamRes N_23.length [7] (lm_23_0 φ φ2)) [7])))) (sHv (sUn fReprA (sHv (sIf (sB (sOp cEq (sHn 9) (sHv (sFz (sLs sNil))))) (sFz (sLs (sCons (sC .non) sNil))) (sTup (sCons (sC (.str "type")) (sCons (sOp opIx (sHn 9) (sHv (sC (.int 0)))) sNil)))))))))
def u_23_0f4f1a0 (φ φ2 : Nat → FT) : SS → OS := (sRet (sC (.bl false)))
abbrev t_23_0f4f1a0 (φ φ2 : Nat → FT) : SS → OS := u_23_0f4f1a0 φ φ2
def u_23_0f4f1 (φ φ2 : Nat → FT) : SS → OS := sIfS (c_23_0f4f1 φ φ2) (t_23_0f4f1a0 φ φ2) (fun σ => .nx σ)
def t_23_0f4f1 (φ φ2 : Nat → FT) : SS → OS := sSeq (u_23_0f4f1 φ φ2) (t_23_0f4f2 φ φ2)
def u_23_0f4f0 (φ φ2 : Nat → FT) : SS → OS := (sSet 9 (sCall (φ 19) [] (sACons (sAv (sVar 7)) sANil)))
def t_23_0f4f0 (φ φ2 : Nat → FT) : SS → OS := sSeq (u_23_0f4f0 φ φ2) (t_23_0f4f1 φ φ2)
theorem v_23_0f4 (φ φ2 : Nat → FT) : lb_23_6 φ φ2 = t_23_0f4f0 φ φ2 := rfl
def t_23_0f4 (φ φ2 : Nat → FT) : SS → OS := sSeq (u_23_0f4 φ φ2) (t_23_0f5 φ φ2)
def u_23_0f3 (φ φ2 : Nat → FT) : SS → OS := (sOwn 6 (sCat (sHn 6) (sHv (sFz (sLs (sCons (sTup (sCons (sC (.str "both")) (sCons (sOp opIx (sHn 6) (sHv (sC (.int 0)))) (sCons (sOp opIx (sHn 6) (sHv (sC (.int 1)))) sNil)))) (sCons (sTup (sCons (sC (.str "to")) (sCons (sTup (sCons (sC (.str "either")) (sCons (sVar 5) (sCons (sOp opIx (sHn 6) (sHv (sC (.int 2)))) sNil)))) (sCons (sOp opIx (sHn 6) (sHv (sC (.int 3)))) sNil)))) (sCons (sTup (sCons (sC (.str "to")) (sCons (sVar 4) (sCons (sTup (sCons (sC (.str "one")) (sCons (sOp opIx (sHn 6) (sHv (sC (.int 4)))) sNil))) sNil)))) sNil))))))))
def t_23_0f3 (φ φ2 : Nat → FT) : SS → OS := sSeq (u_23_0f3 φ φ2) (t_23_0f4 φ φ2)
def u_23_0f2 (φ φ2 : Nat → FT) : SS → OS := (sOwn 6 (sLc [10] (sRng1 (sC (.int 5))) (gN 10) sYes (sCall (φ 20) [] (sACons (sAs 3) (sACons (sAv (sVar 4)) sANil)))))
def t_23_0f2 (φ φ2 : Nat → FT) : SS → OS := sSeq (u_23_0f2 φ φ2) (t_23_0f3 φ φ2)
def u_23_0f1 (φ φ2 : Nat → FT) : SS → OS := (sAsg (gT (gC (gN 4) (gC (gN 5) gZ))) (sTup (sCons (sCall (φ 16) [] (sACons (sAs 3) (sACons (sAv (sC (.int 4))) sANil))) (sCons (sCall (φ 16) [] (sACons (sAs 3) (sACons (sAv (sC (.int 2))) sANil))) sNil))))
def t_23_0f1 (φ φ2 : Nat → FT) : SS → OS := sSeq (u_23_0f1 φ φ2) (t_23_0f2 φ φ2)
def u_23_0f0 (φ φ2 : Nat → FT) : SS → OS := (sOwnM 3 (sCallM (φ 14) [] (sACons (sAv (sVar 2)) (sACons (sAv (sVar 1)) sANil))))
def t_23_0f0 (φ φ2 : Nat → FT) : SS → OS := sSeq (u_23_0f0 φ φ2) (t_23_0f1 φ φ2)
theorem v_23_0 (φ φ2 : Nat → FT) : lb_23_9 φ φ2 = t_23_0f0 φ φ2 := rfl
def t_23_0 (φ φ2 : Nat → FT) : SS → OS := sSeq (u_23_0 φ φ2) (t_23_1 φ φ2)
theorem m_23_e (φ φ2 : Nat → FT) : m_23 φ φ2 = t_23_0 φ φ2 := rfl
end LW

set_option Elab.async false
set_option linter.all false
set_option maxRecDepth 100000
set_option maxHeartbeats 4000000
namespace LW
open PySem L2 TL PyProof.Rows
theorem opIx_mem {L : List D} {i : Int} (h0 : 0 ≤ i) (h1 : i < L.length) : ∃ b, opIx (.lst L) (.int i) = some b ∧ b ∈ L := by
  obtain ⟨j, rfl⟩ : ∃ j : Nat, i = (j : Int) := ⟨i.toNat, by omega⟩
  have hj : j < L.length := by omega
  refine ⟨L.getD j .non, ixn L j hj, ?_⟩
  rw [List.getD_eq_getElem?_getD, List.getElem?_eq_getElem hj]
  exact List.getElem_mem hj
/-! ### a type bent -/
def optL (ds : List D) : List D := [.non, .int 5, .str "a", .tup [], .tup [.str "one", .tup []], .tup [.str "atom", .str "g"], .tup [.str "atom", .str "ab"], .tup [.str "atom", .str ""], .tup [.str "atom", .int 5], .tup [.str "atom"], .tup [.str "both", .tup ds],
  .tup [.str "to", .tup ds, .tup ds, .tup ds], .tup [.str "not", .tup ds], .lst [.str "one"], .tup [.str "either", .tup ds, .non], .lst ds, .tup [.str "one"], .tup ds]
theorem optL_ok {n : Nat} {ds : List D} (h : oks n (.tup ds) = true) : ∀ b ∈ optL ds, oks (n + 4) b = true := by
  have : oksL (n + 4) (optL ds) = true := by
    cases n with
    | zero => simp [oks] at h
    | succ m =>
      simp only [oks] at h
      have hk : ∀ j, m ≤ j → oksL j ds = true := fun j hj => oksL_mono hj h
      simp (disch := omega) [optL, oks, oksL, hk]
  exact oksL_iff.mp this
theorem tailB (k : Nat) (T : Int) (m : MO) (ds : List D) {n : Nat} (h : oks n (.tup ds) = true) (hm : St T m) (hT : T ≤ 900000) :
    ∃ b m', t_20_1 (Φ (k + 2)) [some (.io 0 m), some (.val (.tup ds)), none] = .rt b [some (.io 0 m'), some (.val (.tup ds)), some (.val (.lst (optL ds)))] ∧ oks (n + 4) b = true ∧ St (T + 4) m' := by
  obtain ⟨i, m', e, i0, i1, s⟩ := digit k 18 hm hT (by decide) (by decide)
  obtain ⟨b, hb, bt⟩ := opIx_mem (L := optL ds) i0 i1
  refine ⟨b, m', ?_, optL_ok h b bt, s⟩
  refine (seq_nx (σ1 := [some (.io 0 m), some (.val (.tup ds)), some (.val (.lst ((optL ds).take 11)))]) (by simp [runB, sSeq, sSet, sFz, sLs, sCons, sNil, sTup, sVar, sC, sRet, sOp, sHn, sHv, res, look, opAdd, ofOpt, O.bind, O.bindS, startS, inSlot, LIM, outsAt, outOf, sIsi, isX, isT, tyN, isA, sItL, sItT, gT, gC, gN, gZ, sTru, tru, sIfS, sOrT, sAndT, sNotT, sB, sAnd, sOr, sNot, sIf, sUn, fLen, sCall, sACons, sAv, sAs, sANil, slots, argsOf, argOf, putBack, put1, sPart, sExpr, u_20_1, optL])).trans ?_
  refine (seq_nx (σ1 := [some (.io 0 m), some (.val (.tup ds)), some (.val (.lst (optL ds)))]) (by simp [runB, sSeq, sSet, sFz, sLs, sCons, sNil, sTup, sVar, sC, sRet, sOp, sHn, sHv, res, look, opAdd, ofOpt, O.bind, O.bindS, startS, inSlot, LIM, outsAt, outOf, sIsi, isX, isT, tyN, isA, sItL, sItT, gT, gC, gN, gZ, sTru, tru, sIfS, sOrT, sAndT, sNotT, sB, sAnd, sOr, sNot, sIf, sUn, fLen, sCall, sACons, sAv, sAs, sANil, slots, argsOf, argOf, putBack, put1, sPart, sExpr, u_20_2, optL, sLstOf])).trans ?_
  generalize optL ds = L at hb ⊢
  simp [runB, sSeq, sSet, sFz, sLs, sCons, sNil, sTup, sVar, sC, sRet, sOp, sHn, sHv, res, look, opAdd, ofOpt, O.bind, O.bindS, startS, inSlot, LIM, outsAt, outOf, sIsi, isX, isT, tyN, isA, sItL, sItT, gT, gC, gN, gZ, sTru, tru, sIfS, sOrT, sAndT, sNotT, sB, sAnd, sOr, sNot, sIf, sUn, fLen, sCall, sACons, sAv, sAs, sANil, slots, argsOf, argOf, putBack, put1, sPart, sExpr, u_20_3, e, hb]
theorem P_bent : ∀ {n : Nat} {t : D}, Ty n t → ∀ (k : Nat) (T : Int) (m : MO), St T m → T + 12 * n + 12 ≤ 900000 → ∃ b m', Φ (k + n + 3) 20 [.own m, .val t] = .ok b [.own m', .val t] ∧ oks (n + 6) b = true ∧ St (T + 12 * n + 12) m' := by
  intro n t h
  have plain : ∀ (n : Nat) (ds : List D) (k : Nat) (T T' : Int) (m m0 : MO), Ty n (.tup ds) → St T m → T ≤ 900000 → T + 4 ≤ T' → c_20_0 (Φ (k + 2)) [some (.io 0 m0), some (.val (.tup ds)), none] = .ok false [some (.io 0 m), some (.val (.tup ds)), none] →
      ∃ b m', Φ (k + 3) 20 [.own m0, .val (.tup ds)] = .ok b [.own m', .val (.tup ds)] ∧ oks (n + 6) b = true ∧ St T' m' := fun n ds k T T' m m0 ht hm hT hT' hif => by
    obtain ⟨b, m', e, ob, s⟩ := tailB k T m ds ht.oks hm hT
    refine ⟨b, m', ?_, oks_mono (by omega) ob, s.le (by omega)⟩
    show runB 3 2 (m_20 (Φ (k + 2))) _ = _
    refine runB_rt rfl (σ := [some (.io 0 m'), some (.val (.tup ds)), some (.val (.lst (optL ds)))]) ?_ rfl
    exact (seq_nx (if_no hif)).trans e
  induction h with
  | @a n => exact fun k T m hm hT => plain n _ (k + n) T _ m m .a hm (by omega) (by omega) (by simp [runB, sSeq, sSet, sFz, sLs, sCons, sNil, sTup, sVar, sC, sRet, sOp, sHn, sHv, res, look, opAdd, ofOpt, O.bind, O.bindS, startS, inSlot, LIM, outsAt, outOf, sIsi, isX, isT, tyN, isA, sItL, sItT, gT, gC, gN, gZ, sTru, tru, sIfS, sOrT, sAndT, sNotT, sB, sAnd, sOr, sNot, sIf, sUn, fLen, sCall, sACons, sAv, sAs, sANil, slots, argsOf, argOf, putBack, put1, sPart, sExpr, c_20_0, cei])
  | @b n => exact fun k T m hm hT => plain n _ (k + n) T _ m m .b hm (by omega) (by omega) (by simp [runB, sSeq, sSet, sFz, sLs, sCons, sNil, sTup, sVar, sC, sRet, sOp, sHn, sHv, res, look, opAdd, ofOpt, O.bind, O.bindS, startS, inSlot, LIM, outsAt, outOf, sIsi, isX, isT, tyN, isA, sItL, sItT, gT, gC, gN, gZ, sTru, tru, sIfS, sOrT, sAndT, sNotT, sB, sAnd, sOr, sNot, sIf, sUn, fLen, sCall, sACons, sAv, sAs, sANil, slots, argsOf, argOf, putBack, put1, sPart, sExpr, c_20_0, cei])
  | @one n => exact fun k T m hm hT => plain n _ (k + n) T _ m m .one hm (by omega) (by omega) (by simp [runB, sSeq, sSet, sFz, sLs, sCons, sNil, sTup, sVar, sC, sRet, sOp, sHn, sHv, res, look, opAdd, ofOpt, O.bind, O.bindS, startS, inSlot, LIM, outsAt, outOf, sIsi, isX, isT, tyN, isA, sItL, sItT, gT, gC, gN, gZ, sTru, tru, sIfS, sOrT, sAndT, sNotT, sB, sAnd, sOr, sNot, sIf, sUn, fLen, sCall, sACons, sAv, sAs, sANil, slots, argsOf, argOf, putBack, put1, sPart, sExpr, c_20_0, cei])
  | @mk n w x y hw hx hy ix iy =>
    intro k T m hm hT
    have hT' : Ty (n + 1) (.tup [.str w, x, y]) := .mk hw hx hy
    have ok_w : sok w = true := by rcases hw with rfl | rfl | rfl <;> simp
    obtain ⟨r, m1, e1, r0, r1, s1⟩ := digit (k + (n + 1)) 3 hm (by omega) (by decide) (by decide)
    have e1 : Φ (k + (n + 1) + 2) 15 [.own m, .val (.int 3)] = .ok (.int r) [.own m1, .val (.int 3)] := e1
    by_cases hr : 0 < r
    · obtain ⟨j, m2, e2, j0, j1, s2⟩ := digit (k + (n + 1)) 2 s1 (by omega) (by decide) (by decide)
      have e2 : Φ (k + (n + 1) + 2) 15 [.own m1, .val (.int 2)] = .ok (.int j) [.own m2, .val (.int 2)] := e2
      have hc : c_20_0 (Φ (k + (n + 1) + 2)) [some (.io 0 m), some (.val (.tup [.str w, x, y])), none] = .ok true [some (.io 0 m1), some (.val (.tup [.str w, x, y])), none] := by
        simp [runB, sSeq, sSet, sFz, sLs, sCons, sNil, sTup, sVar, sC, sRet, sOp, sHn, sHv, res, look, opAdd, ofOpt, O.bind, O.bindS, startS, inSlot, LIM, outsAt, outOf, sIsi, isX, isT, tyN, isA, sItL, sItT, gT, gC, gN, gZ, sTru, tru, sIfS, sOrT, sAndT, sNotT, sB, sAnd, sOr, sNot, sIf, sUn, fLen, sCall, sACons, sAv, sAs, sANil, slots, argsOf, argOf, putBack, put1, sPart, sExpr, c_20_0, cei, cGt, e1, hr]
      by_cases hj : j = 0
      · obtain ⟨b, m3, e3, ob, s3⟩ := ix k (T + 4 + 4) m2 s2 (by omega)
        have e3 : Φ (k + (n + 1) + 2) 20 [.own m2, .val x] = .ok b [.own m3, .val x] := e3
        refine ⟨.tup [.str w, b, y], m3, ?_, ?_, s3.le (by omega)⟩
        · show runB 3 2 (m_20 (Φ (k + (n + 1) + 2))) _ = _
          refine runB_rt rfl (σ := [some (.io 0 m3), some (.val (.tup [.str w, x, y])), none]) ?_ rfl
          refine seq_rt ((if_yes hc).trans (seq_rt ?_))
          simp [runB, sSeq, sSet, sFz, sLs, sCons, sNil, sTup, sVar, sC, sRet, sOp, sHn, sHv, res, look, opAdd, ofOpt, O.bind, O.bindS, startS, inSlot, LIM, outsAt, outOf, sIsi, isX, isT, tyN, isA, sItL, sItT, gT, gC, gN, gZ, sTru, tru, sIfS, sOrT, sAndT, sNotT, sB, sAnd, sOr, sNot, sIf, sUn, fLen, sCall, sACons, sAv, sAs, sANil, slots, argsOf, argOf, putBack, put1, sPart, sExpr, u_20_0a0, c_20_0a0, u_20_0a0a0, e2, hj, cei, opIx, atI, ixN, e3]
        · have := oks_mono (show n + 1 ≤ n + 6 by omega) hy.oks
          simp [oks, oksL, ok_w, ob, this]
      · have hj' : (j == 0) = false := beq_eq_false_iff_ne.mpr hj
        obtain ⟨b, m3, e3, ob, s3⟩ := iy k (T + 4 + 4) m2 s2 (by omega)
        have e3 : Φ (k + (n + 1) + 2) 20 [.own m2, .val y] = .ok b [.own m3, .val y] := e3
        refine ⟨.tup [.str w, x, b], m3, ?_, ?_, s3.le (by omega)⟩
        · show runB 3 2 (m_20 (Φ (k + (n + 1) + 2))) _ = _
          refine runB_rt rfl (σ := [some (.io 0 m3), some (.val (.tup [.str w, x, y])), none]) ?_ rfl
          refine seq_rt ((if_yes hc).trans ((seq_nx (σ1 := [some (.io 0 m2), some (.val (.tup [.str w, x, y])), none]) ?_).trans ?_))
          · simp [runB, sSeq, sSet, sFz, sLs, sCons, sNil, sTup, sVar, sC, sRet, sOp, sHn, sHv, res, look, opAdd, ofOpt, O.bind, O.bindS, startS, inSlot, LIM, outsAt, outOf, sIsi, isX, isT, tyN, isA, sItL, sItT, gT, gC, gN, gZ, sTru, tru, sIfS, sOrT, sAndT, sNotT, sB, sAnd, sOr, sNot, sIf, sUn, fLen, sCall, sACons, sAv, sAs, sANil, slots, argsOf, argOf, putBack, put1, sPart, sExpr, u_20_0a0, c_20_0a0, u_20_0a0a0, e2, hj', cei, opIx, atI, ixN]
          · simp [runB, sSeq, sSet, sFz, sLs, sCons, sNil, sTup, sVar, sC, sRet, sOp, sHn, sHv, res, look, opAdd, ofOpt, O.bind, O.bindS, startS, inSlot, LIM, outsAt, outOf, sIsi, isX, isT, tyN, isA, sItL, sItT, gT, gC, gN, gZ, sTru, tru, sIfS, sOrT, sAndT, sNotT, sB, sAnd, sOr, sNot, sIf, sUn, fLen, sCall, sACons, sAv, sAs, sANil, slots, argsOf, argOf, putBack, put1, sPart, sExpr, u_20_0a1, e3, opIx, atI, ixN]
        · have := oks_mono (show n + 1 ≤ n + 6 by omega) hx.oks
          simp [oks, oksL, ok_w, ob, this]
    · exact plain (n + 1) _ (k + (n + 1)) (T + 4) _ m1 m hT' s1 (by omega) (by omega) (by simp [runB, sSeq, sSet, sFz, sLs, sCons, sNil, sTup, sVar, sC, sRet, sOp, sHn, sHv, res, look, opAdd, ofOpt, O.bind, O.bindS, startS, inSlot, LIM, outsAt, outOf, sIsi, isX, isT, tyN, isA, sItL, sItT, gT, gC, gN, gZ, sTru, tru, sIfS, sOrT, sAndT, sNotT, sB, sAnd, sOr, sNot, sIf, sUn, fLen, sCall, sACons, sAv, sAs, sANil, slots, argsOf, argOf, putBack, put1, sPart, sExpr, c_20_0, cei, cGt, e1, hr])
end LW

set_option Elab.async false
set_option linter.all false
set_option maxRecDepth 100000
set_option maxHeartbeats 4000000
namespace LW
open PySem L2 TL PyProof.Rows
def PL (s : Option SD) : Prop := s = none ∨ ∃ x, s = some (.val x)
theorem oks3 {n : Nat} {a b c : D} (ha : oks n a = true) (hb : oks n b = true) (hc : oks n c = true) : oks (n + 1) (.tup [a, b, c]) = true := by
  rw [oks_tup]
  intro x hx
  simp only [List.mem_cons, List.not_mem_nil, or_false] at hx
  rcases hx with rfl | rfl | rfl <;> assumption
/-! ### great types -/
theorem loopG (φ : Nat → FT) (s0 s2 s4 : Option SD) : ∀ (ds : List D) (n : Nat) (d : D) (a : Option SD), (∀ x ∈ ds, ∃ i : Int, x = .int i) → oks n d = true → 1 ≤ n →
    ∃ d' a', sForL (gN 3) (lb_21_0 φ) ds [s0, some (.val d), s2, a, s4] = .nx [s0, some (.val d'), s2, a', s4] ∧ oks (n + ds.length) d' = true
  | [], n, d, a, _, h, _ => ⟨d, a, rfl, h⟩
  | x :: ds, n, d, a, hx, h, hn => by
    obtain ⟨i, rfl⟩ := hx x List.mem_cons_self
    have o1 : oks n (.tup [.str "one"]) = true := by
      cases n with
      | zero => omega
      | succ n => simp [oks, oksL]
    by_cases hi : i % 2 = 0
    · have e : lb_21_0 φ [s0, some (.val d), s2, some (.val (.int i)), s4] = .nx [s0, some (.val (.tup [.str "to", d, .tup [.str "one"]])), s2, some (.val (.int i)), s4] := by
        simp [runB, sSeq, sSet, sFz, sLs, sCons, sNil, sTup, sVar, sC, sRet, sOp, sHn, sHv, res, look, opAdd, ofOpt, O.bind, O.bindS, startS, inSlot, LIM, outsAt, outOf, sIsi, isX, isT, tyN, isA, sItL, sItT, gT, gC, gN, gZ, sTru, tru, sIfS, sOrT, sAndT, sNotT, sB, sAnd, sOr, sNot, sIf, sUn, fLen, sCall, sACons, sAv, sAs, sANil, slots, argsOf, argOf, putBack, put1, sPart, sExpr, lb_21_0, opMod, cei, hi]
      obtain ⟨d', a', e2, h2⟩ := loopG φ s0 s2 s4 ds (n + 1) (.tup [.str "to", d, .tup [.str "one"]]) (some (.val (.int i))) (fun y hy => hx y (List.mem_cons_of_mem _ hy)) (oks3 (by simp [oks]) h o1) (by omega)
      refine ⟨d', a', (forL_nx (g := gN 3) (σ := [s0, some (.val d), s2, a, s4]) rfl e).trans e2, ?_⟩
      rw [List.length_cons, show n + (ds.length + 1) = n + 1 + ds.length by omega]; exact h2
    · have hi' : (i % 2 == 0) = false := beq_eq_false_iff_ne.mpr hi
      have e : lb_21_0 φ [s0, some (.val d), s2, some (.val (.int i)), s4] = .nx [s0, some (.val (.tup [.str "both", .tup [.str "one"], d])), s2, some (.val (.int i)), s4] := by
        simp [runB, sSeq, sSet, sFz, sLs, sCons, sNil, sTup, sVar, sC, sRet, sOp, sHn, sHv, res, look, opAdd, ofOpt, O.bind, O.bindS, startS, inSlot, LIM, outsAt, outOf, sIsi, isX, isT, tyN, isA, sItL, sItT, gT, gC, gN, gZ, sTru, tru, sIfS, sOrT, sAndT, sNotT, sB, sAnd, sOr, sNot, sIf, sUn, fLen, sCall, sACons, sAv, sAs, sANil, slots, argsOf, argOf, putBack, put1, sPart, sExpr, lb_21_0, opMod, cei, hi, hi']
      obtain ⟨d', a', e2, h2⟩ := loopG φ s0 s2 s4 ds (n + 1) (.tup [.str "both", .tup [.str "one"], d]) (some (.val (.int i))) (fun y hy => hx y (List.mem_cons_of_mem _ hy)) (oks3 (by simp [oks]) o1 h) (by omega)
      refine ⟨d', a', (forL_nx (g := gN 3) (σ := [s0, some (.val d), s2, a, s4]) rfl e).trans e2, ?_⟩
      rw [List.length_cons, show n + (ds.length + 1) = n + 1 + ds.length by omega]; exact h2
def pf (xs : List D) (i : Nat) : D := .tup [.str "either", xs.getD (2 * i) .non, xs.getD (2 * i + 1) .non]
theorem lcR (xs : List D) (s0 s1 s3 : Option SD) : ∀ (is : List Nat) (acc : List D), (∀ i ∈ is, 2 * i + 1 < xs.length) →
    sLcL [4] (gN 4) sYes (sTup (sCons (sC (.str "either")) (sCons (sOp opIx (sHn 2) (sHn 4)) (sCons (sOp opIx (sHn 2) (sHv (sOp opAdd (sHn 4) (sHv (sC (.int 1)))))) sNil)))) (is.map fun i : Nat => D.int (0 + (i : Int) * 2)) acc [s0, s1, some (.own (.lst xs)), s3, none] =
      .ok (acc ++ is.map (pf xs)) [s0, s1, some (.own (.lst xs)), s3, none]
  | [], acc, _ => by simp [sLcL]
  | i :: is, acc, h => by
    have hi := h i List.mem_cons_self
    have i1 := TL.ixn xs (2 * i) (by omega)
    have i2 := TL.ixn xs (2 * i + 1) hi
    rw [show ((2 * i : Nat) : Int) = (i : Int) * 2 by omega] at i1
    rw [show ((2 * i + 1 : Nat) : Int) = (i : Int) * 2 + 1 by omega] at i2
    have := lcR xs s0 s1 s3 is (acc ++ [pf xs i]) (fun y hy => h y (List.mem_cons_of_mem _ hy))
    have hm : (sTup (sCons (sC (.str "either")) (sCons (sOp opIx (sHn 2) (sHn 4)) (sCons (sOp opIx (sHn 2) (sHv (sOp opAdd (sHn 4) (sHv (sC (.int 1)))))) sNil)))) [s0, s1, some (.own (.lst xs)), s3, some (.val (.int (0 + (i : Int) * 2)))] = .ok (pf xs i) [s0, s1, some (.own (.lst xs)), s3, some (.val (.int (0 + (i : Int) * 2)))] := by
      rw [Int.zero_add]
      unfold pf
      generalize xs.getD (2 * i) .non = u at i1 ⊢
      generalize xs.getD (2 * i + 1) .non = v at i2 ⊢
      simp [runB, sSeq, sSet, sFz, sLs, sCons, sNil, sTup, sVar, sC, sRet, sOp, sHn, sHv, res, look, opAdd, ofOpt, O.bind, O.bindS, startS, inSlot, LIM, outsAt, outOf, sIsi, isX, isT, tyN, isA, sItL, sItT, gT, gC, gN, gZ, sTru, tru, sIfS, sOrT, sAndT, sNotT, sB, sAnd, sOr, sNot, sIf, sUn, fLen, sCall, sACons, sAv, sAs, sANil, slots, argsOf, argOf, putBack, put1, sPart, sExpr, i1, i2]
    rw [List.map_cons, lc_cons (σ := [s0, s1, some (.own (.lst xs)), s3, none]) (g := gN 4) (d := .int (0 + (i : Int) * 2)) rfl hm, List.map_cons, show acc ++ pf xs i :: is.map (pf xs) = (acc ++ [pf xs i]) ++ is.map (pf xs) by simp]
    exact this
def halveD (xs : List D) : List D := (List.range (xs.length / 2)).map (pf xs) ++ xs.drop (xs.length - xs.length % 2)
theorem halveD_len (xs : List D) : (halveD xs).length = xs.length / 2 + xs.length % 2 := by
  unfold halveD
  simp only [List.length_append, List.length_map, List.length_range, List.length_drop]
  omega
theorem halveD_ok {n : Nat} {xs : List D} (h : ∀ x ∈ xs, oks n x = true) : ∀ x ∈ halveD xs, oks (n + 1) x = true := by
  have g : ∀ j, oks n (xs.getD j .non) = true := fun j => by
    by_cases hj : j < xs.length
    · rw [List.getD_eq_getElem?_getD, List.getElem?_eq_getElem hj]; exact h _ (List.getElem_mem hj)
    · rw [List.getD_eq_getElem?_getD, List.getElem?_eq_none (by omega)]; simp [oks]
  intro x hx
  rcases List.mem_append.mp hx with hx | hx
  · obtain ⟨i, _, rfl⟩ := List.mem_map.mp hx
    unfold pf
    simp only [oks, oksL, g]; simp
  · exact oks_mono (by omega) (h x (List.mem_of_mem_drop hx))
theorem rg_fact (L : Nat) (h : 1 ≤ L) (h2 : L ≤ 32) : rgOk 0 ((L : Int) - 1) 2 = true ∧ (Builtin.Range.rangeSize 0 ((L : Int) - 1) 2).toNat = L / 2 := by
  have : ∀ L : Fin 33, 1 ≤ L.val → rgOk 0 ((L.val : Int) - 1) 2 = true ∧ (Builtin.Range.rangeSize 0 ((L.val : Int) - 1) 2).toNat = L.val / 2 := by decide +kernel
  exact this ⟨L, by omega⟩ h
theorem stepG (φ : Nat → FT) (xs : List D) (hb1 : 1 ≤ xs.length) (hb : xs.length ≤ 32) (s0 s1 s3 s4 : Option SD) (h4 : PL s4) :
    lb_21_2 φ [s0, s1, some (.own (.lst xs)), s3, s4] = .nx [s0, s1, some (.own (.lst (halveD xs))), s3, s4] := by
  obtain ⟨L, hL⟩ : ∃ L, xs.length = L := ⟨_, rfl⟩
  rw [hL] at hb1 hb
  obtain ⟨h1, h2⟩ := rg_fact L hb1 hb
  have e2 : (sOp opSub (sHv (sUn fLen (sHn 2))) (sHv (sC (.int 1)))) [s0, s1, some (.own (.lst xs)), s3, s4] = .ok (.int ((L : Int) - 1)) [s0, s1, some (.own (.lst xs)), s3, s4] := by simp [runB, sSeq, sSet, sFz, sLs, sCons, sNil, sTup, sVar, sC, sRet, sOp, sHn, sHv, res, look, opAdd, ofOpt, O.bind, O.bindS, startS, inSlot, LIM, outsAt, outOf, sIsi, isX, isT, tyN, isA, sItL, sItT, gT, gC, gN, gZ, sTru, tru, sIfS, sOrT, sAndT, sNotT, sB, sAnd, sOr, sNot, sIf, sUn, fLen, sCall, sACons, sAv, sAs, sANil, slots, argsOf, argOf, putBack, put1, sPart, sExpr, opSub, hL]
  have e4 := rng_c (m := sC (.int 0)) rfl e2 (o := sC (.int 2)) rfl h1
  rw [h2] at e4
  have hst : steps 0 2 (L / 2) = (List.range (L / 2)).map fun i : Nat => D.int (0 + (i : Int) * 2) := rfl
  have e5 := lcR xs s0 s1 s3 (List.range (L / 2)) [] (fun i hi => by have := List.mem_range.mp hi; omega)
  rw [← hst, List.nil_append] at e5
  have hlc : sLc [4] (sRngC (sC (.int 0)) (sOp opSub (sHv (sUn fLen (sHn 2))) (sHv (sC (.int 1)))) (sC (.int 2))) (gN 4) sYes (sTup (sCons (sC (.str "either")) (sCons (sOp opIx (sHn 2) (sHn 4)) (sCons (sOp opIx (sHn 2) (sHv (sOp opAdd (sHn 4) (sHv (sC (.int 1)))))) sNil))))
      [s0, s1, some (.own (.lst xs)), s3, s4] = .ok ((List.range (L / 2)).map (pf xs)) [s0, s1, some (.own (.lst xs)), s3, s4] := by
    unfold sLc
    rw [e4]
    have hl : (steps 0 2 (L / 2)).length ≤ 16777216 := by simp [steps]; omega
    rcases h4 with rfl | ⟨x, rfl⟩ <;>
      simp only [O.bind, plainAt, wipeS, List.set_cons_succ, List.set_cons_zero, List.getElem?_cons_succ, List.getElem?_cons_zero, Bool.and_self, LIM, hl, and_self, if_true, e5, bringS]
  have hc : cut xs (some ((L : Int) - (L : Int) % 2)) none = xs.drop (L - L % 2) := by
    have := cut_d xs (L - L % 2) (by omega)
    rw [show ((L - L % 2 : Nat) : Int) = (L : Int) - (L : Int) % 2 by omega] at this
    exact this
  have hh : halveD xs = (List.range (L / 2)).map (pf xs) ++ xs.drop (L - L % 2) := by unfold halveD; rw [hL]
  rw [hh]
  have hlen : L / 2 + (xs.drop (L - L % 2)).length ≤ 16777216 := by simp; omega
  unfold lb_21_2
  generalize sLc [4] (sRngC (sC (.int 0)) (sOp opSub (sHv (sUn fLen (sHn 2))) (sHv (sC (.int 1)))) (sC (.int 2))) (gN 4) sYes (sTup (sCons (sC (.str "either")) (sCons (sOp opIx (sHn 2) (sHn 4)) (sCons (sOp opIx (sHn 2) (sHv (sOp opAdd (sHn 4) (sHv (sC (.int 1)))))) sNil)))) = X at hlc ⊢
  generalize hA : (List.range (L / 2)).map (pf xs) = A at hlc
  have hAl : A.length = L / 2 := by rw [← hA]; simp
  generalize xs.drop (L - L % 2) = B at hc hlen
  have hlen2 : A.length + B.length ≤ 16777216 := by omega
  simp [runB, sSeq, sSet, sFz, sLs, sCons, sNil, sTup, sVar, sC, sRet, sOp, sHn, sHv, res, look, opAdd, ofOpt, O.bind, O.bindS, startS, inSlot, LIM, outsAt, outOf, sIsi, isX, isT, tyN, isA, sItL, sItT, gT, gC, gN, gZ, sTru, tru, sIfS, sOrT, sAndT, sNotT, sB, sAnd, sOr, sNot, sIf, sUn, fLen, sCall, sACons, sAv, sAs, sANil, slots, argsOf, argOf, putBack, put1, sPart, sExpr, sOwn, sCat, hlc, opSub, opMod, hL, sSl, opSl, hc, hlen2]
theorem runG (φ : Nat → FT) (s0 s1 s3 s4 : Option SD) (h4 : PL s4) : ∀ (j n : Nat) (xs : List D), 1 ≤ xs.length → xs.length ≤ 2 ^ j → xs.length ≤ 32 → (∀ x ∈ xs, oks n x = true) →
    ∃ x, oks (n + j) x = true ∧ ∀ g, sWhile (sB (sOp cGt (sHv (sUn fLen (sHn 2))) (sHv (sC (.int 1))))) (lb_21_2 φ) (g + j + 1) [s0, s1, some (.own (.lst xs)), s3, s4] = .nx [s0, s1, some (.own (.lst [x])), s3, s4] := by
  have stop : ∀ (x : D) (g : Nat), sWhile (sB (sOp cGt (sHv (sUn fLen (sHn 2))) (sHv (sC (.int 1))))) (lb_21_2 φ) (g + 1) [s0, s1, some (.own (.lst [x])), s3, s4] = .nx [s0, s1, some (.own (.lst [x])), s3, s4] := fun x g => while_end (by simp [runB, sSeq, sSet, sFz, sLs, sCons, sNil, sTup, sVar, sC, sRet, sOp, sHn, sHv, res, look, opAdd, ofOpt, O.bind, O.bindS, startS, inSlot, LIM, outsAt, outOf, sIsi, isX, isT, tyN, isA, sItL, sItT, gT, gC, gN, gZ, sTru, tru, sIfS, sOrT, sAndT, sNotT, sB, sAnd, sOr, sNot, sIf, sUn, fLen, sCall, sACons, sAv, sAs, sANil, slots, argsOf, argOf, putBack, put1, sPart, sExpr, cGt])
  intro j
  induction j with
  | zero =>
    intro n xs h1 h2 h3 h
    match xs, h1, h2 with
    | [x], _, _ => exact ⟨x, h x (by simp), fun g => stop x _⟩
    | x :: y :: r, _, h2 => simp at h2
  | succ j ih =>
    intro n xs h1 h2 h3 h
    by_cases hx : xs.length = 1
    · match xs, hx with
      | [x], _ => exact ⟨x, oks_mono (by omega) (h x (by simp)), fun g => stop x _⟩
    · have hp : 2 ^ (j + 1) = 2 ^ j * 2 := Nat.pow_succ 2 j
      have hl := halveD_len xs
      obtain ⟨x, ox, e⟩ := ih (n + 1) (halveD xs) (by omega) (by omega) (by omega) (halveD_ok h)
      refine ⟨x, by rw [show n + (j + 1) = n + 1 + j by omega]; exact ox, fun g => ?_⟩
      rw [show g + (j + 1) + 1 = (g + j + 1) + 1 by omega]
      refine (while_go ?_ (stepG φ xs h1 h3 s0 s1 s3 s4 h4)).trans (e g)
      have : 1 < (xs.length : Int) := by omega
      simp [runB, sSeq, sSet, sFz, sLs, sCons, sNil, sTup, sVar, sC, sRet, sOp, sHn, sHv, res, look, opAdd, ofOpt, O.bind, O.bindS, startS, inSlot, LIM, outsAt, outOf, sIsi, isX, isT, tyN, isA, sItL, sItT, gT, gC, gN, gZ, sTru, tru, sIfS, sOrT, sAndT, sNotT, sB, sAnd, sOr, sNot, sIf, sUn, fLen, sCall, sACons, sAv, sAs, sANil, slots, argsOf, argOf, putBack, put1, sPart, sExpr, cGt, this]
theorem P_great (k : Nat) (T : Int) (m : MO) (hm : St T m) (hT : T ≤ 800000) : ∃ d m', Φ (k + 3) 21 [.own m] = .ok d [.own m'] ∧ oks 60 d = true ∧ St (T + 20) m' := by
  obtain ⟨c1, m1, e1, a1, b1, s1⟩ := digit k 2 hm (by omega) (by decide) (by decide)
  have o0 : oks 1 (.tup [.str "atom", .str "f"]) = true := by simp [oks, oksL]
  have h0 : u_21_0 (Φ (k + 2)) [some (.io 0 m), none, none, none, none] = .nx [some (.io 0 m), some (.val (.tup [.str "atom", .str "f"])), none, none, none] := by simp [runB, sSeq, sSet, sFz, sLs, sCons, sNil, sTup, sVar, sC, sRet, sOp, sHn, sHv, res, look, opAdd, ofOpt, O.bind, O.bindS, startS, inSlot, LIM, outsAt, outOf, sIsi, isX, isT, tyN, isA, sItL, sItT, gT, gC, gN, gZ, sTru, tru, sIfS, sOrT, sAndT, sNotT, sB, sAnd, sOr, sNot, sIf, sUn, fLen, sCall, sACons, sAv, sAs, sANil, slots, argsOf, argOf, putBack, put1, sPart, sExpr, u_21_0]
  obtain ⟨c2, m2, e2, a2, b2, s2⟩ := digit k 4 s1 (by omega) (by decide) (by decide)
  by_cases h1 : c1 = 0
  · subst h1
    have hc : c_21_1 (Φ (k + 2)) [some (.io 0 m), some (.val (.tup [.str "atom", .str "f"])), none, none, none] = .ok true [some (.io 0 m1), some (.val (.tup [.str "atom", .str "f"])), none, none, none] := by simp [runB, sSeq, sSet, sFz, sLs, sCons, sNil, sTup, sVar, sC, sRet, sOp, sHn, sHv, res, look, opAdd, ofOpt, O.bind, O.bindS, startS, inSlot, LIM, outsAt, outOf, sIsi, isX, isT, tyN, isA, sItL, sItT, gT, gC, gN, gZ, sTru, tru, sIfS, sOrT, sAndT, sNotT, sB, sAnd, sOr, sNot, sIf, sUn, fLen, sCall, sACons, sAv, sAs, sANil, slots, argsOf, argOf, putBack, put1, sPart, sExpr, c_21_1, e1, cei]
    obtain ⟨c2, rfl⟩ : ∃ j : Nat, c2 = (j : Int) := ⟨c2.toNat, by omega⟩
    have hi : (sRng1 (sOp opAdd (sHv (sC (.int 10))) (sHv (sCall (Φ (k + 2) 15) [] (sACons (sAs 0) (sACons (sAv (sC (.int 4))) sANil)))))) [some (.io 0 m1), some (.val (.tup [.str "atom", .str "f"])), none, none, none] = .ok (TL.upTo 0 (10 + c2)) [some (.io 0 m2), some (.val (.tup [.str "atom", .str "f"])), none, none, none] := by
      have r := r62n (10 + c2) (by omega)
      rw [show ((10 + c2 : Nat) : Int) = 10 + (c2 : Int) by omega] at r
      have t : (10 + (c2 : Int)).toNat = 10 + c2 := by omega
      simp [runB, sSeq, sSet, sFz, sLs, sCons, sNil, sTup, sVar, sC, sRet, sOp, sHn, sHv, res, look, opAdd, ofOpt, O.bind, O.bindS, startS, inSlot, LIM, outsAt, outOf, sIsi, isX, isT, tyN, isA, sItL, sItT, gT, gC, gN, gZ, sTru, tru, sIfS, sOrT, sAndT, sNotT, sB, sAnd, sOr, sNot, sIf, sUn, fLen, sCall, sACons, sAv, sAs, sANil, slots, argsOf, argOf, putBack, put1, sPart, sExpr, sRng1, e2, r, t]
    obtain ⟨d', a', e3, o3⟩ := loopG (Φ (k + 2)) (some (.io 0 m2)) none none (TL.upTo 0 (10 + c2)) 1 _ none (upTo_ints _) o0 (by decide)
    have hl : (TL.upTo 0 (10 + c2)).length = 10 + c2 := by simp [TL.upTo]
    rw [hl] at o3
    refine ⟨d', m2, ?_, oks_mono (by omega) o3, s2.le (by omega)⟩
    show runB 5 1 (m_21 (Φ (k + 2))) _ = _
    refine runB_rt (σ := [some (.io 0 m2), some (.val d'), none, a', none]) rfl ?_ rfl
    refine (seq_nx h0).trans (seq_rt ((if_yes hc).trans ((seq_nx (σ1 := [some (.io 0 m2), some (.val d'), none, a', none]) ?_).trans ?_)))
    · show lf_21_0 _ _ = _
      unfold lf_21_0 sFor
      rw [hi]; exact e3
    · simp [runB, sSeq, sSet, sFz, sLs, sCons, sNil, sTup, sVar, sC, sRet, sOp, sHn, sHv, res, look, opAdd, ofOpt, O.bind, O.bindS, startS, inSlot, LIM, outsAt, outOf, sIsi, isX, isT, tyN, isA, sItL, sItT, gT, gC, gN, gZ, sTru, tru, sIfS, sOrT, sAndT, sNotT, sB, sAnd, sOr, sNot, sIf, sUn, fLen, sCall, sACons, sAv, sAs, sANil, slots, argsOf, argOf, putBack, put1, sPart, sExpr, u_21_1a1]
  · have h1' : (c1 == 0) = false := beq_eq_false_iff_ne.mpr h1
    have hc : c_21_1 (Φ (k + 2)) [some (.io 0 m), some (.val (.tup [.str "atom", .str "f"])), none, none, none] = .ok false [some (.io 0 m1), some (.val (.tup [.str "atom", .str "f"])), none, none, none] := by simp [runB, sSeq, sSet, sFz, sLs, sCons, sNil, sTup, sVar, sC, sRet, sOp, sHn, sHv, res, look, opAdd, ofOpt, O.bind, O.bindS, startS, inSlot, LIM, outsAt, outOf, sIsi, isX, isT, tyN, isA, sItL, sItT, gT, gC, gN, gZ, sTru, tru, sIfS, sOrT, sAndT, sNotT, sB, sAnd, sOr, sNot, sIf, sUn, fLen, sCall, sACons, sAv, sAs, sANil, slots, argsOf, argOf, putBack, put1, sPart, sExpr, c_21_1, e1, cei, h1']
    obtain ⟨c2, rfl⟩ : ∃ j : Nat, c2 = (j : Int) := ⟨c2.toNat, by omega⟩
    obtain ⟨c3, m3, e3, a3, b3, s3⟩ := digit k 2 s2 (by omega) (by decide) (by decide)
    have h2 : u_21_2 (Φ (k + 2)) [some (.io 0 m1), some (.val (.tup [.str "atom", .str "f"])), none, none, none] = .nx [some (.io 0 m2), some (.val (.tup [.str "atom", .str "f"])), some (.own (.lst (List.replicate (29 + c2) (.tup [.str "atom", .str "f"])))), none, none] := by
      have t : (29 + (c2 : Int)).toNat = 29 + c2 := by omega
      have t2 : -1000 ≤ 29 + (c2 : Int) ∧ 29 + (c2 : Int) ≤ 4000 := by omega
      have fl := flat1 (.tup [.str "atom", .str "f"]) (29 + c2)
      simp [runB, sSeq, sSet, sFz, sLs, sCons, sNil, sTup, sVar, sC, sRet, sOp, sHn, sHv, res, look, opAdd, ofOpt, O.bind, O.bindS, startS, inSlot, LIM, outsAt, outOf, sIsi, isX, isT, tyN, isA, sItL, sItT, gT, gC, gN, gZ, sTru, tru, sIfS, sOrT, sAndT, sNotT, sB, sAnd, sOr, sNot, sIf, sUn, fLen, sCall, sACons, sAv, sAs, sANil, slots, argsOf, argOf, putBack, put1, sPart, sExpr, u_21_2, sOwn, sRep, e2, t, t2, fl]
    have all0 : ∀ x ∈ List.replicate (29 + c2) (D.tup [.str "atom", .str "f"]), oks 1 x = true := fun x hx => by rw [(List.mem_replicate.mp hx).2]; exact o0
    -- the place that is spoilt
    have mid : ∃ (m4 : MO) (xs : List D), u_21_3 (Φ (k + 2)) [some (.io 0 m2), some (.val (.tup [.str "atom", .str "f"])), some (.own (.lst (List.replicate (29 + c2) (.tup [.str "atom", .str "f"])))), none, none] = .nx [some (.io 0 m4), some (.val (.tup [.str "atom", .str "f"])), some (.own (.lst xs)), none, none] ∧ xs.length = 29 + c2 ∧ (∀ x ∈ xs, oks 1 x = true) ∧ St (T + 20) m4 := by
      by_cases h3 : c3 = 0
      · subst h3
        obtain ⟨c4, m4, e4, a4, b4, s4⟩ := digit k 4 s3 (by omega) (by decide) (by decide)
        have hc3 : c_21_3 (Φ (k + 2)) [some (.io 0 m2), some (.val (.tup [.str "atom", .str "f"])), some (.own (.lst (List.replicate (29 + c2) (.tup [.str "atom", .str "f"])))), none, none] = .ok true [some (.io 0 m3), some (.val (.tup [.str "atom", .str "f"])), some (.own (.lst (List.replicate (29 + c2) (.tup [.str "atom", .str "f"])))), none, none] := by
          simp [runB, sSeq, sSet, sFz, sLs, sCons, sNil, sTup, sVar, sC, sRet, sOp, sHn, sHv, res, look, opAdd, ofOpt, O.bind, O.bindS, startS, inSlot, LIM, outsAt, outOf, sIsi, isX, isT, tyN, isA, sItL, sItT, gT, gC, gN, gZ, sTru, tru, sIfS, sOrT, sAndT, sNotT, sB, sAnd, sOr, sNot, sIf, sUn, fLen, sCall, sACons, sAv, sAs, sANil, slots, argsOf, argOf, putBack, put1, sPart, sExpr, c_21_3, e3, cei]
        generalize hR : List.replicate (29 + c2) (D.tup [.str "atom", .str "f"]) = R at all0 hc3 ⊢
        have lR : R.length = 29 + c2 := by rw [← hR]; simp
        obtain ⟨i, hi, j, hj⟩ : ∃ i, opIx (.lst [.int 14, .int 15, .int (29 - (R.length : Int)), .int (-1)]) (.int c4) = some (.int i) ∧ ∃ j, ixN R.length i = some j := by
          rcases (by omega : c4 = 0 ∨ c4 = 1 ∨ c4 = 2 ∨ c4 = 3) with rfl | rfl | rfl | rfl
          · exact ⟨14, rfl, 14, by simp [ixN]; omega⟩
          · exact ⟨15, rfl, 15, by simp [ixN]; omega⟩
          · refine ⟨29 - (R.length : Int), rfl, ?_⟩
            rw [lR]
            rcases (by omega : c2 = 0 ∨ c2 = 1 ∨ c2 = 2 ∨ c2 = 3) with rfl | rfl | rfl | rfl <;> exact ⟨_, rfl⟩
          · refine ⟨-1, rfl, ?_⟩
            rw [lR]
            rcases (by omega : c2 = 0 ∨ c2 = 1 ∨ c2 = 2 ∨ c2 = 3) with rfl | rfl | rfl | rfl <;> exact ⟨_, rfl⟩
        refine ⟨m4, R.set j .non, ?_, by simp [lR], fun x hx => ?_, s4.le (by omega)⟩
        · refine (if_yes hc3).trans ?_
          simp [runB, sSeq, sSet, sFz, sLs, sCons, sNil, sTup, sVar, sC, sRet, sOp, sHn, sHv, res, look, opAdd, ofOpt, O.bind, O.bindS, startS, inSlot, LIM, outsAt, outOf, sIsi, isX, isT, tyN, isA, sItL, sItT, gT, gC, gN, gZ, sTru, tru, sIfS, sOrT, sAndT, sNotT, sB, sAnd, sOr, sNot, sIf, sUn, fLen, sCall, sACons, sAv, sAs, sANil, slots, argsOf, argOf, putBack, put1, sPart, sExpr, u_21_3a0, sLput, curL, opSub, sNeg, e4, hi, hj]
        · rcases List.mem_or_eq_of_mem_set hx with h | rfl
          · exact all0 x h
          · simp [oks]
      · have h3' : (c3 == 0) = false := beq_eq_false_iff_ne.mpr h3
        refine ⟨m3, _, if_no (σ1 := [some (.io 0 m3), some (.val (.tup [.str "atom", .str "f"])), some (.own (.lst (List.replicate (29 + c2) (.tup [.str "atom", .str "f"])))), none, none]) ?_, by simp, all0, s3.le (by omega)⟩
        simp [runB, sSeq, sSet, sFz, sLs, sCons, sNil, sTup, sVar, sC, sRet, sOp, sHn, sHv, res, look, opAdd, ofOpt, O.bind, O.bindS, startS, inSlot, LIM, outsAt, outOf, sIsi, isX, isT, tyN, isA, sItL, sItT, gT, gC, gN, gZ, sTru, tru, sIfS, sOrT, sAndT, sNotT, sB, sAnd, sOr, sNot, sIf, sUn, fLen, sCall, sACons, sAv, sAs, sANil, slots, argsOf, argOf, putBack, put1, sPart, sExpr, c_21_3, e3, cei, h3']
    obtain ⟨m4, xs, e4, l4, o4, s4⟩ := mid
    obtain ⟨x, ox, e5⟩ := runG (Φ (k + 2)) (some (.io 0 m4)) (some (.val (.tup [.str "atom", .str "f"]))) none none (.inl rfl) 5 1 xs (by omega) (by rw [l4]; show 29 + c2 ≤ 32; omega) (by omega) o4
    refine ⟨x, m4, ?_, oks_mono (by decide) ox, s4⟩
    show runB 5 1 (m_21 (Φ (k + 2))) _ = _
    refine runB_rt (σ := [some (.io 0 m4), some (.val (.tup [.str "atom", .str "f"])), some (.own (.lst [x])), none, none]) rfl ?_ rfl
    refine (seq_nx h0).trans ((seq_nx (if_no hc)).trans ((seq_nx h2).trans ((seq_nx e4).trans ((seq_nx (e5 2994)).trans ?_))))
    simp [runB, sSeq, sSet, sFz, sLs, sCons, sNil, sTup, sVar, sC, sRet, sOp, sHn, sHv, res, look, opAdd, ofOpt, O.bind, O.bindS, startS, inSlot, LIM, outsAt, outOf, sIsi, isX, isT, tyN, isA, sItL, sItT, gT, gC, gN, gZ, sTru, tru, sIfS, sOrT, sAndT, sNotT, sB, sAnd, sOr, sNot, sIf, sUn, fLen, sCall, sACons, sAv, sAs, sANil, slots, argsOf, argOf, putBack, put1, sPart, sExpr, u_21_5, opIx, atI, ixN]
end LW

set_option Elab.async false
set_option linter.all false
set_option maxRecDepth 100000
set_option maxHeartbeats 4000000
namespace LW
open PySem L2 TL PyProof.Rows
/-! ### _law_told -/
theorem told_ok {δ : List D → TR} {cap : List D} {d : D} (h : δ cap = .ok d) : runB 4 1 (m_17 δ) [.val (.lam cap)] = .ok (.lst [d]) [.val (.lam cap)] := by
  simp [runB, sSeq, sSet, sFz, sLs, sCons, sNil, sTup, sVar, sC, sRet, sOp, sHn, sHv, res, look, opAdd, ofOpt, O.bind, O.bindS, startS, inSlot, LIM, outsAt, outOf, sIsi, isX, isT, tyN, isA, sItL, sItT, gT, gC, gN, gZ, sTru, tru, sIfS, sOrT, sAndT, sNotT, sB, sAnd, sOr, sNot, sIf, sUn, fLen, sCall, sACons, sAv, sAs, sANil, slots, argsOf, argOf, putBack, put1, sPart, sExpr, m_17, sAsg, sTry, sThunk, h, cIs, TL.isNon]
theorem told_type {δ : List D → TR} {cap : List D} {d : D} (h : δ cap = .ex ⟨0, d⟩) : runB 4 1 (m_17 δ) [.val (.lam cap)] = .ok (.tup [.str "type", d]) [.val (.lam cap)] := by
  simp [runB, sSeq, sSet, sFz, sLs, sCons, sNil, sTup, sVar, sC, sRet, sOp, sHn, sHv, res, look, opAdd, ofOpt, O.bind, O.bindS, startS, inSlot, LIM, outsAt, outOf, sIsi, isX, isT, tyN, isA, sItL, sItT, gT, gC, gN, gZ, sTru, tru, sIfS, sOrT, sAndT, sNotT, sB, sAnd, sOr, sNot, sIf, sUn, fLen, sCall, sACons, sAv, sAs, sANil, slots, argsOf, argOf, putBack, put1, sPart, sExpr, m_17, sAsg, sTry, sThunk, h, cIs, TL.isNon, sHnds, x_SameError_NoSuch_TooMany, clrO, clr, setO, q_TooMany, q_NoSuch, q_BadType, q_ValueError, TL.sFld, fs_place]
theorem told_inp {δ : List D → TR} {cap : List D} {d : D} (h : δ cap = .ex ⟨1, d⟩) : runB 4 1 (m_17 δ) [.val (.lam cap)] = .ok (.tup [.str "inputs", d]) [.val (.lam cap)] := by
  simp [runB, sSeq, sSet, sFz, sLs, sCons, sNil, sTup, sVar, sC, sRet, sOp, sHn, sHv, res, look, opAdd, ofOpt, O.bind, O.bindS, startS, inSlot, LIM, outsAt, outOf, sIsi, isX, isT, tyN, isA, sItL, sItT, gT, gC, gN, gZ, sTru, tru, sIfS, sOrT, sAndT, sNotT, sB, sAnd, sOr, sNot, sIf, sUn, fLen, sCall, sACons, sAv, sAs, sANil, slots, argsOf, argOf, putBack, put1, sPart, sExpr, m_17, sAsg, sTry, sThunk, h, cIs, TL.isNon, sHnds, x_SameError_NoSuch_TooMany, clrO, clr, setO, q_TooMany, q_NoSuch, q_BadType, q_BadInputs, q_ValueError, TL.sFld, fs_place]
/-! ### inputs -/
theorem wi_loop (k : Nat) (th : Option SD) : ∀ (ds : List D) (j : Nat) (a b : Option SD), (∀ d ∈ ds, oks 150 d = true ∧ wr d = none) →
    ∃ a' b', sForL (gT (gC (gN 1) (gC (gN 2) gZ))) (lb_5_0 (Φ (k + 4))) (numF ds j) [th, a, b] = .nx [th, a', b']
  | [], j, a, b, _ => ⟨a, b, rfl⟩
  | d :: ds, j, a, b, h => by
    obtain ⟨o, e⟩ := h d List.mem_cons_self
    have e1 := P_is k o
    rw [e] at e1
    obtain ⟨a', b', e2⟩ := wi_loop k th ds (j + 1) (some (.val (.int (j : Nat)))) (some (.val d)) fun x hx => h x (List.mem_cons_of_mem _ hx)
    refine ⟨a', b', (forL_nx (σ := [th, a, b]) (g := gT (gC (gN 1) (gC (gN 2) gZ))) (σ1 := [th, some (.val (.int (j : Nat))), some (.val d)]) (σ2 := [th, some (.val (.int (j : Nat))), some (.val d)]) rfl ?_).trans e2⟩
    simp [runB, sSeq, sSet, sFz, sLs, sCons, sNil, sTup, sVar, sC, sRet, sOp, sHn, sHv, res, look, opAdd, ofOpt, O.bind, O.bindS, startS, inSlot, LIM, outsAt, outOf, sIsi, isX, isT, tyN, isA, sItL, sItT, gT, gC, gN, gZ, sTru, tru, sIfS, sOrT, sAndT, sNotT, sB, sAnd, sOr, sNot, sIf, sUn, fLen, sCall, sACons, sAv, sAs, sANil, slots, argsOf, argOf, putBack, put1, sPart, sExpr, lb_5_0, e1]
theorem P_wi_ok (k : Nat) (ds : List D) (hl : ds.length ≤ 6) (h : ∀ d ∈ ds, oks 150 d = true ∧ wr d = none) : Φ (k + 5) 5 [.val (.tup ds)] = .ok (.lst []) [.val (.tup ds)] := by
  obtain ⟨a', b', e⟩ := wi_loop k (some (.val (.tup ds))) ds 0 none none h
  have hi : sEnumT (sVar 0) [some (.val (.tup ds)), none, none] = .ok (numF ds 0) [some (.val (.tup ds)), none, none] := by
    rw [← num_eq]; simp [runB, sSeq, sSet, sFz, sLs, sCons, sNil, sTup, sVar, sC, sRet, sOp, sHn, sHv, res, look, opAdd, ofOpt, O.bind, O.bindS, startS, inSlot, LIM, outsAt, outOf, sIsi, isX, isT, tyN, isA, sItL, sItT, gT, gC, gN, gZ, sTru, tru, sIfS, sOrT, sAndT, sNotT, sB, sAnd, sOr, sNot, sIf, sUn, fLen, sCall, sACons, sAv, sAs, sANil, slots, argsOf, argOf, putBack, put1, sPart, sExpr, sEnumT]
  have e : lf_5_0 (Φ (k + 4)) [some (.val (.tup ds)), none, none] = _ := (for_go hi).trans e
  have n6 : ¬ (6 < (ds.length : Int)) := by omega
  show runB 3 1 (m_5 (Φ (k + 4))) _ = _
  simp [runB, sSeq, sSet, sFz, sLs, sCons, sNil, sTup, sVar, sC, sRet, sOp, sHn, sHv, res, look, opAdd, ofOpt, O.bind, O.bindS, startS, inSlot, LIM, outsAt, outOf, sIsi, isX, isT, tyN, isA, sItL, sItT, gT, gC, gN, gZ, sTru, tru, sIfS, sOrT, sAndT, sNotT, sB, sAnd, sOr, sNot, sIf, sUn, fLen, sCall, sACons, sAv, sAs, sANil, slots, argsOf, argOf, putBack, put1, sPart, sExpr, m_5, cGt, n6, e]
theorem P_ni_ok (k : Nat) (ds : List D) (hl : ds.length ≤ 6) (h : ∀ d ∈ ds, oks 150 d = true ∧ wr d = none) : Φ (k + 6) 6 [.val (.tup ds)] = .ok .non [.val (.tup ds)] := by
  have e := P_wi_ok k ds hl h
  show runB 2 1 (m_6 (Φ (k + 5))) _ = _
  simp [runB, sSeq, sSet, sFz, sLs, sCons, sNil, sTup, sVar, sC, sRet, sOp, sHn, sHv, res, look, opAdd, ofOpt, O.bind, O.bindS, startS, inSlot, LIM, outsAt, outOf, sIsi, isX, isT, tyN, isA, sItL, sItT, gT, gC, gN, gZ, sTru, tru, sIfS, sOrT, sAndT, sNotT, sB, sAnd, sOr, sNot, sIf, sUn, fLen, sCall, sACons, sAv, sAs, sANil, slots, argsOf, argOf, putBack, put1, sPart, sExpr, m_6, e, cNe, ok, okL, deq, deqL]
theorem P_ni_2 (k : Nat) (u d r : D) (hu : oks 150 u = true ∧ wr u = none) (hd : oks 150 d = true) (hr : wr d = some r) : Φ (k + 6) 6 [.val (.tup [u, d])] = .ex ⟨1, .int 1⟩ [.val (.tup [u, d])] := by
  have e1 := P_is k hu.1
  rw [hu.2] at e1
  have e2 := P_is k hd
  rw [hr] at e2
  have hi : sEnumT (sVar 0) [some (.val (.tup [u, d])), none, none] = .ok (numF [u, d] 0) [some (.val (.tup [u, d])), none, none] := by
    rw [← num_eq]; simp [runB, sSeq, sSet, sFz, sLs, sCons, sNil, sTup, sVar, sC, sRet, sOp, sHn, sHv, res, look, opAdd, ofOpt, O.bind, O.bindS, startS, inSlot, LIM, outsAt, outOf, sIsi, isX, isT, tyN, isA, sItL, sItT, gT, gC, gN, gZ, sTru, tru, sIfS, sOrT, sAndT, sNotT, sB, sAnd, sOr, sNot, sIf, sUn, fLen, sCall, sACons, sAv, sAs, sANil, slots, argsOf, argOf, putBack, put1, sPart, sExpr, sEnumT]
  have e : lf_5_0 (Φ (k + 4)) [some (.val (.tup [u, d])), none, none] = .rt (.lst [.int 1]) [some (.val (.tup [u, d])), some (.val (.int 1)), some (.val d)] := by
    refine (for_go hi).trans ((forL_nx (σ := [some (.val (.tup [u, d])), none, none]) (g := gT (gC (gN 1) (gC (gN 2) gZ))) (σ1 := [some (.val (.tup [u, d])), some (.val (.int 0)), some (.val u)]) (σ2 := [some (.val (.tup [u, d])), some (.val (.int 0)), some (.val u)]) rfl ?_).trans (forL_rt (g := gT (gC (gN 1) (gC (gN 2) gZ))) (σ1 := [some (.val (.tup [u, d])), some (.val (.int 1)), some (.val d)]) rfl ?_))
    · simp [runB, sSeq, sSet, sFz, sLs, sCons, sNil, sTup, sVar, sC, sRet, sOp, sHn, sHv, res, look, opAdd, ofOpt, O.bind, O.bindS, startS, inSlot, LIM, outsAt, outOf, sIsi, isX, isT, tyN, isA, sItL, sItT, gT, gC, gN, gZ, sTru, tru, sIfS, sOrT, sAndT, sNotT, sB, sAnd, sOr, sNot, sIf, sUn, fLen, sCall, sACons, sAv, sAs, sANil, slots, argsOf, argOf, putBack, put1, sPart, sExpr, lb_5_0, e1]
    · simp [runB, sSeq, sSet, sFz, sLs, sCons, sNil, sTup, sVar, sC, sRet, sOp, sHn, sHv, res, look, opAdd, ofOpt, O.bind, O.bindS, startS, inSlot, LIM, outsAt, outOf, sIsi, isX, isT, tyN, isA, sItL, sItT, gT, gC, gN, gZ, sTru, tru, sIfS, sOrT, sAndT, sNotT, sB, sAnd, sOr, sNot, sIf, sUn, fLen, sCall, sACons, sAv, sAs, sANil, slots, argsOf, argOf, putBack, put1, sPart, sExpr, lb_5_0, e2]
  have e3 : Φ (k + 5) 5 [.val (.tup [u, d])] = .ok (.lst [.int 1]) [.val (.tup [u, d])] := by
    show runB 3 1 (m_5 (Φ (k + 4))) _ = _
    simp [runB, sSeq, sSet, sFz, sLs, sCons, sNil, sTup, sVar, sC, sRet, sOp, sHn, sHv, res, look, opAdd, ofOpt, O.bind, O.bindS, startS, inSlot, LIM, outsAt, outOf, sIsi, isX, isT, tyN, isA, sItL, sItT, gT, gC, gN, gZ, sTru, tru, sIfS, sOrT, sAndT, sNotT, sB, sAnd, sOr, sNot, sIf, sUn, fLen, sCall, sACons, sAv, sAs, sANil, slots, argsOf, argOf, putBack, put1, sPart, sExpr, m_5, cGt, e]
  show runB 2 1 (m_6 (Φ (k + 5))) _ = _
  simp [runB, sSeq, sSet, sFz, sLs, sCons, sNil, sTup, sVar, sC, sRet, sOp, sHn, sHv, res, look, opAdd, ofOpt, O.bind, O.bindS, startS, inSlot, LIM, outsAt, outOf, sIsi, isX, isT, tyN, isA, sItL, sItT, gT, gC, gN, gZ, sTru, tru, sIfS, sOrT, sAndT, sNotT, sB, sAnd, sOr, sNot, sIf, sUn, fLen, sCall, sACons, sAv, sAs, sANil, slots, argsOf, argOf, putBack, put1, sPart, sExpr, m_6, e3, cNe, ok, okL, deq, deqL, sRaise, opIx, atI, ixN]
theorem P_ni_bad (k : Nat) (d : D) (h : (∃ s, tyN d = some s) ∧ ((∀ ds, d ≠ .tup ds) ∨ ∃ ds, d = .tup ds ∧ 6 < ds.length)) : Φ (k + 2) 6 [.val d] = .ex ⟨1, .non⟩ [.val d] := by
  have e3 : Φ (k + 1) 5 [.val d] = .ok (.lst [.non]) [.val d] := by
    show runB 3 1 (m_5 (Φ k)) _ = _
    obtain ⟨⟨s, hs⟩, h | ⟨ds, rfl, hl⟩⟩ := h
    · cases d with
      | tup ds => exact absurd rfl (h ds)
      | non => simp [runB, sSeq, sSet, sFz, sLs, sCons, sNil, sTup, sVar, sC, sRet, sOp, sHn, sHv, res, look, opAdd, ofOpt, O.bind, O.bindS, startS, inSlot, LIM, outsAt, outOf, sIsi, isX, isT, tyN, isA, sItL, sItT, gT, gC, gN, gZ, sTru, tru, sIfS, sOrT, sAndT, sNotT, sB, sAnd, sOr, sNot, sIf, sUn, fLen, sCall, sACons, sAv, sAs, sANil, slots, argsOf, argOf, putBack, put1, sPart, sExpr, m_5]
      | bl b => simp [runB, sSeq, sSet, sFz, sLs, sCons, sNil, sTup, sVar, sC, sRet, sOp, sHn, sHv, res, look, opAdd, ofOpt, O.bind, O.bindS, startS, inSlot, LIM, outsAt, outOf, sIsi, isX, isT, tyN, isA, sItL, sItT, gT, gC, gN, gZ, sTru, tru, sIfS, sOrT, sAndT, sNotT, sB, sAnd, sOr, sNot, sIf, sUn, fLen, sCall, sACons, sAv, sAs, sANil, slots, argsOf, argOf, putBack, put1, sPart, sExpr, m_5]
      | int b => simp [runB, sSeq, sSet, sFz, sLs, sCons, sNil, sTup, sVar, sC, sRet, sOp, sHn, sHv, res, look, opAdd, ofOpt, O.bind, O.bindS, startS, inSlot, LIM, outsAt, outOf, sIsi, isX, isT, tyN, isA, sItL, sItT, gT, gC, gN, gZ, sTru, tru, sIfS, sOrT, sAndT, sNotT, sB, sAnd, sOr, sNot, sIf, sUn, fLen, sCall, sACons, sAv, sAs, sANil, slots, argsOf, argOf, putBack, put1, sPart, sExpr, m_5]
      | str b => simp [runB, sSeq, sSet, sFz, sLs, sCons, sNil, sTup, sVar, sC, sRet, sOp, sHn, sHv, res, look, opAdd, ofOpt, O.bind, O.bindS, startS, inSlot, LIM, outsAt, outOf, sIsi, isX, isT, tyN, isA, sItL, sItT, gT, gC, gN, gZ, sTru, tru, sIfS, sOrT, sAndT, sNotT, sB, sAnd, sOr, sNot, sIf, sUn, fLen, sCall, sACons, sAv, sAs, sANil, slots, argsOf, argOf, putBack, put1, sPart, sExpr, m_5]
      | lst b => simp [runB, sSeq, sSet, sFz, sLs, sCons, sNil, sTup, sVar, sC, sRet, sOp, sHn, sHv, res, look, opAdd, ofOpt, O.bind, O.bindS, startS, inSlot, LIM, outsAt, outOf, sIsi, isX, isT, tyN, isA, sItL, sItT, gT, gC, gN, gZ, sTru, tru, sIfS, sOrT, sAndT, sNotT, sB, sAnd, sOr, sNot, sIf, sUn, fLen, sCall, sACons, sAv, sAs, sANil, slots, argsOf, argOf, putBack, put1, sPart, sExpr, m_5]
      | cls i => cases hs
      | fn i c => cases hs
      | exc c x => cases hs
      | err c x => cases hs
      | lam c => cases hs
    · have n6 : 6 < (ds.length : Int) := by omega
      simp [runB, sSeq, sSet, sFz, sLs, sCons, sNil, sTup, sVar, sC, sRet, sOp, sHn, sHv, res, look, opAdd, ofOpt, O.bind, O.bindS, startS, inSlot, LIM, outsAt, outOf, sIsi, isX, isT, tyN, isA, sItL, sItT, gT, gC, gN, gZ, sTru, tru, sIfS, sOrT, sAndT, sNotT, sB, sAnd, sOr, sNot, sIf, sUn, fLen, sCall, sACons, sAv, sAs, sANil, slots, argsOf, argOf, putBack, put1, sPart, sExpr, m_5, cGt, n6]
  show runB 2 1 (m_6 (Φ (k + 1))) _ = _
  simp [runB, sSeq, sSet, sFz, sLs, sCons, sNil, sTup, sVar, sC, sRet, sOp, sHn, sHv, res, look, opAdd, ofOpt, O.bind, O.bindS, startS, inSlot, LIM, outsAt, outOf, sIsi, isX, isT, tyN, isA, sItL, sItT, gT, gC, gN, gZ, sTru, tru, sIfS, sOrT, sAndT, sNotT, sB, sAnd, sOr, sNot, sIf, sUn, fLen, sCall, sACons, sAv, sAs, sANil, slots, argsOf, argOf, putBack, put1, sPart, sExpr, m_6, e3, cNe, ok, okL, deq, deqL, sRaise, opIx, atI, ixN]
/-! ### the others refuse -/
theorem X_size (k : Nat) {d r : D} (h : oks 150 d = true) (hr : wr d = some r) : Φ (k + 5) 8 [.val d] = .ex ⟨0, r⟩ [.val d] := by
  have e := P_need k h
  rw [hr] at e
  show runB 1 1 (m_8 (Φ (k + 4))) _ = _
  simp [runB, sSeq, sSet, sFz, sLs, sCons, sNil, sTup, sVar, sC, sRet, sOp, sHn, sHv, res, look, opAdd, ofOpt, O.bind, O.bindS, startS, inSlot, LIM, outsAt, outOf, sIsi, isX, isT, tyN, isA, sItL, sItT, gT, gC, gN, gZ, sTru, tru, sIfS, sOrT, sAndT, sNotT, sB, sAnd, sOr, sNot, sIf, sUn, fLen, sCall, sACons, sAv, sAs, sANil, slots, argsOf, argOf, putBack, put1, sPart, sExpr, m_8, e]
theorem X_atoms (k : Nat) {d r : D} (h : oks 150 d = true) (hr : wr d = some r) : Φ (k + 5) 10 [.val d] = .ex ⟨0, r⟩ [.val d] := by
  have e := P_need k h
  rw [hr] at e
  show runB 1 1 (m_10 (Φ (k + 4))) _ = _
  simp [runB, sSeq, sSet, sFz, sLs, sCons, sNil, sTup, sVar, sC, sRet, sOp, sHn, sHv, res, look, opAdd, ofOpt, O.bind, O.bindS, startS, inSlot, LIM, outsAt, outOf, sIsi, isX, isT, tyN, isA, sItL, sItT, gT, gC, gN, gZ, sTru, tru, sIfS, sOrT, sAndT, sNotT, sB, sAnd, sOr, sNot, sIf, sUn, fLen, sCall, sACons, sAv, sAs, sANil, slots, argsOf, argOf, putBack, put1, sPart, sExpr, m_10, e]
theorem X_bef1 (k : Nat) {d r : D} (h : oks 150 d = true) (hr : wr d = some r) : Φ (k + 5) 12 [.val d, .val .non] = .ex ⟨0, r⟩ [.val d, .val .non] := by
  have e := P_need k h
  rw [hr] at e
  show runB 2 2 (m_12 (Φ (k + 4))) _ = _
  simp [runB, sSeq, sSet, sFz, sLs, sCons, sNil, sTup, sVar, sC, sRet, sOp, sHn, sHv, res, look, opAdd, ofOpt, O.bind, O.bindS, startS, inSlot, LIM, outsAt, outOf, sIsi, isX, isT, tyN, isA, sItL, sItT, gT, gC, gN, gZ, sTru, tru, sIfS, sOrT, sAndT, sNotT, sB, sAnd, sOr, sNot, sIf, sUn, fLen, sCall, sACons, sAv, sAs, sANil, slots, argsOf, argOf, putBack, put1, sPart, sExpr, m_12, e]
theorem X_bef2 (k : Nat) {t d r : D} (ht : oks 150 t = true) (hw : wr t = none) (h : oks 150 d = true) (hr : wr d = some r) : Φ (k + 5) 12 [.val t, .val d] = .ex ⟨0, r⟩ [.val t, .val d] := by
  have e := P_need k h
  rw [hr] at e
  have e1 := P_need k ht
  rw [hw] at e1
  show runB 2 2 (m_12 (Φ (k + 4))) _ = _
  simp [runB, sSeq, sSet, sFz, sLs, sCons, sNil, sTup, sVar, sC, sRet, sOp, sHn, sHv, res, look, opAdd, ofOpt, O.bind, O.bindS, startS, inSlot, LIM, outsAt, outOf, sIsi, isX, isT, tyN, isA, sItL, sItT, gT, gC, gN, gZ, sTru, tru, sIfS, sOrT, sAndT, sNotT, sB, sAnd, sOr, sNot, sIf, sUn, fLen, sCall, sACons, sAv, sAs, sANil, slots, argsOf, argOf, putBack, put1, sPart, sExpr, m_12, e1, e]
/-! ### reprs -/
theorem rN : ∃ x, fReprA (.lst [.non]) = some (.str x) := fRepr_some (d := .lst [.non]) (by simp [ok, okL]) rfl (by decide) (by decide)
theorem sm_ty : small (.str "type") = true ∧ small (.str "inputs") = true := by decide +kernel
theorem bk_ty : bulkD (.str "type") = 4 ∧ bulkD (.str "inputs") = 6 := by decide +kernel
theorem rT {r : D} (h : Rs r) : ∃ x, fReprA (.tup [.str "type", r]) = some (.str x) := by
  refine fRepr_some (d := .tup [.str "type", r]) ?_ rfl ?_ ?_
  · have := h.ok 198; simp [ok, okL, this]
  · show (small (.str "type") && (small r && true)) = true
    rw [sm_ty.1, h.small.1]; rfl
  · show bulkD (.str "type") + 1 + (bulkD r + 1 + 0) ≤ _
    have := h.small.2
    rw [bk_ty.1]; omega
theorem rI : ∃ x, fReprA (.tup [.str "inputs", .non]) = some (.str x) := by
  refine fRepr_some (d := .tup [.str "inputs", .non]) (by simp [ok, okL]) rfl ?_ ?_
  · show (small (.str "inputs") && (small .non && true)) = true
    rw [sm_ty.2]; rfl
  · show bulkD (.str "inputs") + 1 + (bulkD .non + 1 + 0) ≤ _
    rw [bk_ty.2]; decide
def toldL (r : D) : D := .lst [.tup [.str "type", r], .tup [.str "type", r], .tup [.str "type", r], .tup [.str "type", r], .tup [.str "inputs", .int 1]]
theorem rL {r : D} (h : Rs r) : ∃ x, fReprA (toldL r) = some (.str x) := by
  have s0 : small (.tup [.str "type", r]) = true := by
    show (small (.str "type") && (small r && true)) = true
    rw [sm_ty.1, h.small.1]; rfl
  have b0 : bulkD (.tup [.str "type", r]) ≤ 300 := by
    show bulkD (.str "type") + 1 + (bulkD r + 1 + 0) ≤ _
    have := h.small.2
    rw [bk_ty.1]; omega
  have s1 : small (.tup [.str "inputs", .int 1]) = true := by
    show (small (.str "inputs") && (small (.int 1) && true)) = true
    rw [sm_ty.2]; decide
  have b1 : bulkD (.tup [.str "inputs", .int 1]) ≤ 300 := by
    show bulkD (.str "inputs") + 1 + (bulkD (.int 1) + 1 + 0) ≤ _
    rw [bk_ty.2]; decide
  refine fRepr_some (d := toldL r) ?_ rfl ?_ ?_
  · have := h.ok 197; simp [toldL, ok, okL, this]
  · show (small (.tup [.str "type", r]) && (small (.tup [.str "type", r]) && (small (.tup [.str "type", r]) && (small (.tup [.str "type", r]) && (small (.tup [.str "inputs", .int 1]) && true))))) = true
    rw [s0, s1]; rfl
  · show bulkD (.tup [.str "type", r]) + 1 + (bulkD (.tup [.str "type", r]) + 1 + (bulkD (.tup [.str "type", r]) + 1 + (bulkD (.tup [.str "type", r]) + 1 + (bulkD (.tup [.str "inputs", .int 1]) + 1 + 0)))) ≤ _
    omega
/-! ### lambdas in the law's frame -/
def e13 : SS := List.replicate 13 none
theorem lt0 (φ : Nat → FT) {d : D} (h : oks 150 d = true) {σ : SS} (hσ : capsOf σ [7] = some [d]) :
    sLam 4 m_17 (lamRes 13 [7] (lm_23_0 φ (Φ 15))) [7] σ = .ok (match wr d with | none => .lst [.non] | some r => .tup [.str "type", r]) σ := by
  have nl := ok_nolam (oks_ok h)
  have e := P_need 11 h
  cases hw : wr d with
  | none =>
    rw [hw] at e
    exact sLam_goN hσ (by simp [noLamL, nl]) (told_ok (lam_okN (σ' := e13.set 7 (some (.val d))) (by simp [noLamL, nl]) rfl (by simp [runB, sSeq, sSet, sFz, sLs, sCons, sNil, sTup, sVar, sC, sRet, sOp, sHn, sHv, res, look, opAdd, ofOpt, O.bind, O.bindS, startS, inSlot, LIM, outsAt, outOf, sIsi, isX, isT, tyN, isA, sItL, sItT, gT, gC, gN, gZ, sTru, tru, sIfS, sOrT, sAndT, sNotT, sB, sAnd, sOr, sNot, sIf, sUn, fLen, sCall, sACons, sAv, sAs, sANil, slots, argsOf, argOf, putBack, put1, sPart, sExpr, lm_23_0, putC, e13, e]))) rfl
  | some r =>
    rw [hw] at e
    have rs := wr_rs h hw
    exact sLam_goN hσ (by simp [noLamL, nl]) (told_type (lam_exN (x := ⟨0, r⟩) (σ' := e13.set 7 (some (.val d))) (by simp [noLamL, nl]) rs.noLam (by simp [runB, sSeq, sSet, sFz, sLs, sCons, sNil, sTup, sVar, sC, sRet, sOp, sHn, sHv, res, look, opAdd, ofOpt, O.bind, O.bindS, startS, inSlot, LIM, outsAt, outOf, sIsi, isX, isT, tyN, isA, sItL, sItT, gT, gC, gN, gZ, sTru, tru, sIfS, sOrT, sAndT, sNotT, sB, sAnd, sOr, sNot, sIf, sUn, fLen, sCall, sACons, sAv, sAs, sANil, slots, argsOf, argOf, putBack, put1, sPart, sExpr, lm_23_0, putC, e13, e]))) (by simp [noLam, noLamL, rs.noLam])
theorem lt1 (φ : Nat → FT) {d r : D} (h : oks 150 d = true) (hr : wr d = some r) {σ : SS} (hσ : capsOf σ [7] = some [d]) :
    sLam 4 m_17 (lamRes 13 [7] (lm_23_1 φ (Φ 15))) [7] σ = .ok (.tup [.str "type", r]) σ := by
  have nl := ok_nolam (oks_ok h)
  have rs := wr_rs h hr
  have e := X_atoms 10 h hr
  exact sLam_goN hσ (by simp [noLamL, nl]) (told_type (lam_exN (x := ⟨0, r⟩) (σ' := e13.set 7 (some (.val d))) (by simp [noLamL, nl]) rs.noLam (by simp [runB, sSeq, sSet, sFz, sLs, sCons, sNil, sTup, sVar, sC, sRet, sOp, sHn, sHv, res, look, opAdd, ofOpt, O.bind, O.bindS, startS, inSlot, LIM, outsAt, outOf, sIsi, isX, isT, tyN, isA, sItL, sItT, gT, gC, gN, gZ, sTru, tru, sIfS, sOrT, sAndT, sNotT, sB, sAnd, sOr, sNot, sIf, sUn, fLen, sCall, sACons, sAv, sAs, sANil, slots, argsOf, argOf, putBack, put1, sPart, sExpr, lm_23_1, putC, e13, e]))) (by simp [noLam, noLamL, rs.noLam])
theorem lt2 (φ : Nat → FT) {d r : D} (h : oks 150 d = true) (hr : wr d = some r) {σ : SS} (hσ : capsOf σ [7] = some [d]) :
    sLam 4 m_17 (lamRes 13 [7] (lm_23_2 φ (Φ 15))) [7] σ = .ok (.tup [.str "type", r]) σ := by
  have nl := ok_nolam (oks_ok h)
  have rs := wr_rs h hr
  have e := X_size 10 h hr
  exact sLam_goN hσ (by simp [noLamL, nl]) (told_type (lam_exN (x := ⟨0, r⟩) (σ' := e13.set 7 (some (.val d))) (by simp [noLamL, nl]) rs.noLam (by simp [runB, sSeq, sSet, sFz, sLs, sCons, sNil, sTup, sVar, sC, sRet, sOp, sHn, sHv, res, look, opAdd, ofOpt, O.bind, O.bindS, startS, inSlot, LIM, outsAt, outOf, sIsi, isX, isT, tyN, isA, sItL, sItT, gT, gC, gN, gZ, sTru, tru, sIfS, sOrT, sAndT, sNotT, sB, sAnd, sOr, sNot, sIf, sUn, fLen, sCall, sACons, sAv, sAs, sANil, slots, argsOf, argOf, putBack, put1, sPart, sExpr, lm_23_2, putC, e13, e]))) (by simp [noLam, noLamL, rs.noLam])
theorem lt4 (φ : Nat → FT) {d r : D} (h : oks 150 d = true) (hr : wr d = some r) {σ : SS} (hσ : capsOf σ [7] = some [d]) :
    sLam 4 m_17 (lamRes 13 [7] (lm_23_4 φ (Φ 15))) [7] σ = .ok (.tup [.str "type", r]) σ := by
  have nl := ok_nolam (oks_ok h)
  have rs := wr_rs h hr
  have e := X_bef1 10 h hr
  exact sLam_goN hσ (by simp [noLamL, nl]) (told_type (lam_exN (x := ⟨0, r⟩) (σ' := e13.set 7 (some (.val d))) (by simp [noLamL, nl]) rs.noLam (by simp [runB, sSeq, sSet, sFz, sLs, sCons, sNil, sTup, sVar, sC, sRet, sOp, sHn, sHv, res, look, opAdd, ofOpt, O.bind, O.bindS, startS, inSlot, LIM, outsAt, outOf, sIsi, isX, isT, tyN, isA, sItL, sItT, gT, gC, gN, gZ, sTru, tru, sIfS, sOrT, sAndT, sNotT, sB, sAnd, sOr, sNot, sIf, sUn, fLen, sCall, sACons, sAv, sAs, sANil, slots, argsOf, argOf, putBack, put1, sPart, sExpr, lm_23_4, putC, e13, e]))) (by simp [noLam, noLamL, rs.noLam])
theorem lt3 (φ : Nat → FT) {t d r : D} (ht : oks 150 t = true) (hw : wr t = none) (h : oks 150 d = true) (hr : wr d = some r) {σ : SS} (hσ : capsOf σ [4, 7] = some [t, d]) :
    sLam 4 m_17 (lamRes 13 [4, 7] (lm_23_3 φ (Φ 15))) [4, 7] σ = .ok (.tup [.str "type", r]) σ := by
  have nl := ok_nolam (oks_ok h)
  have nt := ok_nolam (oks_ok ht)
  have rs := wr_rs h hr
  have e := X_bef2 10 ht hw h hr
  exact sLam_goN hσ (by simp [noLamL, nl, nt]) (told_type (lam_exN (x := ⟨0, r⟩) (σ' := (e13.set 7 (some (.val d))).set 4 (some (.val t))) (by simp [noLamL, nl, nt]) rs.noLam (by simp [runB, sSeq, sSet, sFz, sLs, sCons, sNil, sTup, sVar, sC, sRet, sOp, sHn, sHv, res, look, opAdd, ofOpt, O.bind, O.bindS, startS, inSlot, LIM, outsAt, outOf, sIsi, isX, isT, tyN, isA, sItL, sItT, gT, gC, gN, gZ, sTru, tru, sIfS, sOrT, sAndT, sNotT, sB, sAnd, sOr, sNot, sIf, sUn, fLen, sCall, sACons, sAv, sAs, sANil, slots, argsOf, argOf, putBack, put1, sPart, sExpr, lm_23_3, putC, e13, e]))) (by simp [noLam, noLamL, rs.noLam])
theorem lt5 (φ : Nat → FT) {u d r : D} (ht : oks 150 u = true) (hw : wr u = none) (h : oks 150 d = true) (hr : wr d = some r) {σ : SS} (hσ : capsOf σ [5, 7] = some [u, d]) :
    sLam 4 m_17 (lamRes 13 [5, 7] (lm_23_5 φ (Φ 15))) [5, 7] σ = .ok (.tup [.str "inputs", .int 1]) σ := by
  have nl := ok_nolam (oks_ok h)
  have nt := ok_nolam (oks_ok ht)
  have e := P_ni_2 9 u d r ⟨ht, hw⟩ h hr
  exact sLam_goN hσ (by simp [noLamL, nl, nt]) (told_inp (lam_exN (x := ⟨1, .int 1⟩) (σ' := (e13.set 7 (some (.val d))).set 5 (some (.val u))) (by simp [noLamL, nl, nt]) rfl (by simp [runB, sSeq, sSet, sFz, sLs, sCons, sNil, sTup, sVar, sC, sRet, sOp, sHn, sHv, res, look, opAdd, ofOpt, O.bind, O.bindS, startS, inSlot, LIM, outsAt, outOf, sIsi, isX, isT, tyN, isA, sItL, sItT, gT, gC, gN, gZ, sTru, tru, sIfS, sOrT, sAndT, sNotT, sB, sAnd, sOr, sNot, sIf, sUn, fLen, sCall, sACons, sAv, sAs, sANil, slots, argsOf, argOf, putBack, put1, sPart, sExpr, lm_23_5, putC, e13, e]))) rfl
theorem lt8 (φ : Nat → FT) {d : D} (hn : noLam d = true) (h : (∃ s, tyN d = some s) ∧ ((∀ ds, d ≠ .tup ds) ∨ ∃ ds, d = .tup ds ∧ 6 < ds.length)) {σ : SS} (hσ : capsOf σ [8] = some [d]) :
    sLam 4 m_17 (lamRes 13 [8] (lm_23_8 φ (Φ 15))) [8] σ = .ok (.tup [.str "inputs", .non]) σ := by
  have e := P_ni_bad 13 d h
  exact sLam_goN hσ (by simp [noLamL, hn]) (told_inp (lam_exN (x := ⟨1, .non⟩) (σ' := e13.set 8 (some (.val d))) (by simp [noLamL, hn]) rfl (by simp [runB, sSeq, sSet, sFz, sLs, sCons, sNil, sTup, sVar, sC, sRet, sOp, sHn, sHv, res, look, opAdd, ofOpt, O.bind, O.bindS, startS, inSlot, LIM, outsAt, outOf, sIsi, isX, isT, tyN, isA, sItL, sItT, gT, gC, gN, gZ, sTru, tru, sIfS, sOrT, sAndT, sNotT, sB, sAnd, sOr, sNot, sIf, sUn, fLen, sCall, sACons, sAv, sAs, sANil, slots, argsOf, argOf, putBack, put1, sPart, sExpr, lm_23_8, putC, e13, e]))) rfl
end LW

set_option Elab.async false
set_option linter.all false
set_option maxRecDepth 100000
set_option maxHeartbeats 4000000
namespace LW
open PySem L2 TL PyProof.Rows
/-! ### one thing is looked at -/
theorem turnI {t u d : D} (ht : Ty 4 t) (hu : Ty 2 u) (hd : oks 150 d = true) (s0 s1 s2 s3 s6 s8 s9 s10 s11 s12 : Option SD) :
    ∃ r9 r11, lb_23_6 (Φ 18) (Φ 15) [s0, s1, s2, s3, some (.val t), some (.val u), s6, some (.val d), s8, s9, s10, s11, s12] = .nx [s0, s1, s2, s3, some (.val t), some (.val u), s6, some (.val d), s8, r9, s10, r11, s12] := by
  have ew := Q_wrong 16 hd
  have ew : Φ 18 19 [.val d] = .ok (.lst (wr d).toList) [.val d] := ew
  have h0 := lt0 (Φ 18) hd (σ := [s0, s1, s2, s3, some (.val t), some (.val u), s6, some (.val d), s8, some (.val (.lst (wr d).toList)), s10, s11, s12]) rfl
  cases hw : wr d with
  | none =>
    rw [hw] at ew h0
    have ew : Φ 18 19 [.val d] = .ok (.lst []) [.val d] := ew
    have h0 : sLam 4 m_17 (lamRes 13 [7] (lm_23_0 (Φ 18) (Φ 15))) [7] [s0, s1, s2, s3, some (.val t), some (.val u), s6, some (.val d), s8, some (.val (.lst [])), s10, s11, s12] = .ok (.lst [.non]) _ := h0
    obtain ⟨x, hx⟩ := rN
    exact ⟨some (.val (.lst [])), s11, by simp [runB, sSeq, sSet, sFz, sLs, sCons, sNil, sTup, sVar, sC, sRet, sOp, sHn, sHv, res, look, opAdd, ofOpt, O.bind, O.bindS, startS, inSlot, LIM, outsAt, outOf, sIsi, isX, isT, tyN, isA, sItL, sItT, gT, gC, gN, gZ, sTru, tru, sIfS, sOrT, sAndT, sNotT, sB, sAnd, sOr, sNot, sIf, sUn, fLen, sCall, sACons, sAv, sAs, sANil, slots, argsOf, argOf, putBack, put1, sPart, sExpr, lb_23_6, ew, h0, hx, cNeS_refl, cEq, cNe, ok, okL, deq, deqL]⟩
  | some r =>
    rw [hw] at ew h0
    have rs := wr_rs hd hw
    have ew : Φ 18 19 [.val d] = .ok (.lst [r]) [.val d] := ew
    have h0 : sLam 4 m_17 (lamRes 13 [7] (lm_23_0 (Φ 18) (Φ 15))) [7] [s0, s1, s2, s3, some (.val t), some (.val u), s6, some (.val d), s8, some (.val (.lst [r])), s10, s11, s12] = .ok (.tup [.str "type", r]) _ := h0
    have o198 := rs.ok 198
    have nq : cNe (.lst [r]) (.lst []) = some (.bl true) := by simp [cNe, ok, okL, o198, deq, deqL]
    have eq : cEq (.lst [r]) (.lst []) = some (.bl false) := by simp [cEq, ok, okL, o198, deq, deqL]
    obtain ⟨x, hx⟩ := rT rs
    obtain ⟨y, hy⟩ := rL rs
    unfold toldL at hy
    have h1 := lt1 (Φ 18) hd hw (σ := [s0, s1, s2, s3, some (.val t), some (.val u), s6, some (.val d), s8, some (.val (.lst [r])), s10, s11, s12]) rfl
    have h2 := lt2 (Φ 18) hd hw (σ := [s0, s1, s2, s3, some (.val t), some (.val u), s6, some (.val d), s8, some (.val (.lst [r])), s10, s11, s12]) rfl
    have h4 := lt4 (Φ 18) hd hw (σ := [s0, s1, s2, s3, some (.val t), some (.val u), s6, some (.val d), s8, some (.val (.lst [r])), s10, some (.own (.lst [.tup [.str "type", r], .tup [.str "type", r]])), s12]) rfl
    have h3 := lt3 (Φ 18) (oks_mono (by decide) ht.oks) (ht.wr (by decide)) hd hw (σ := [s0, s1, s2, s3, some (.val t), some (.val u), s6, some (.val d), s8, some (.val (.lst [r])), s10, some (.own (.lst [.tup [.str "type", r], .tup [.str "type", r]])), s12]) rfl
    have h5 := lt5 (Φ 18) (oks_mono (by decide) hu.oks) (hu.wr (by decide)) hd hw (σ := [s0, s1, s2, s3, some (.val t), some (.val u), s6, some (.val d), s8, some (.val (.lst [r])), s10, some (.own (.lst [.tup [.str "type", r], .tup [.str "type", r], .tup [.str "type", r], .tup [.str "type", r]])), s12]) rfl
    refine ⟨some (.val (.lst [r])), some (.own (.lst [.tup [.str "type", r], .tup [.str "type", r], .tup [.str "type", r], .tup [.str "type", r], .tup [.str "inputs", .int 1]])), ?_⟩
    simp [runB, sSeq, sSet, sFz, sLs, sCons, sNil, sTup, sVar, sC, sRet, sOp, sHn, sHv, res, look, opAdd, ofOpt, O.bind, O.bindS, startS, inSlot, LIM, outsAt, outOf, sIsi, isX, isT, tyN, isA, sItL, sItT, gT, gC, gN, gZ, sTru, tru, sIfS, sOrT, sAndT, sNotT, sB, sAnd, sOr, sNot, sIf, sUn, fLen, sCall, sACons, sAv, sAs, sANil, slots, argsOf, argOf, putBack, put1, sPart, sExpr, lb_23_6, ew, h0, h1, h2, h3, h4, h5, hx, hy, nq, eq, cNeS_refl, opIx, atI, ixN, sOwn, sCat, sApp, curL, sRep, List.replicate]
theorem loopI {t u : D} (ht : Ty 4 t) (hu : Ty 2 u) (s0 s1 s2 s3 s6 s8 s10 s12 : Option SD) : ∀ (ds : List D) (a s9 s11 : Option SD), (∀ d ∈ ds, oks 150 d = true) →
    ∃ a' r9 r11, sForL (gN 7) (lb_23_6 (Φ 18) (Φ 15)) ds [s0, s1, s2, s3, some (.val t), some (.val u), s6, a, s8, s9, s10, s11, s12] = .nx [s0, s1, s2, s3, some (.val t), some (.val u), s6, a', s8, r9, s10, r11, s12]
  | [], a, s9, s11, _ => ⟨a, s9, s11, rfl⟩
  | d :: ds, a, s9, s11, h => by
    obtain ⟨r9, r11, e⟩ := turnI ht hu (h d List.mem_cons_self) s0 s1 s2 s3 s6 s8 s9 s10 s11 s12
    obtain ⟨a', q9, q11, e2⟩ := loopI ht hu s0 s1 s2 s3 s6 s8 s10 s12 ds (some (.val d)) r9 r11 fun x hx => h x (List.mem_cons_of_mem _ hx)
    exact ⟨a', q9, q11, (forL_nx (g := gN 7) (σ := [s0, s1, s2, s3, some (.val t), some (.val u), s6, a, s8, s9, s10, s11, s12]) rfl e).trans e2⟩
/-! ### what is drawn -/
theorem lcB {t : D} (ht : Ty 4 t) (s0 s1 s2 s5 s6 s7 s8 s9 s11 s12 : Option SD) : ∀ (ds acc : List D) (T : Int) (m : MO), St T m → T + 60 * ds.length ≤ 800000 →
    ∃ xs m', sLcL [10] (gN 10) sYes (sCall (Φ 18 20) [] (sACons (sAs 3) (sACons (sAv (sVar 4)) sANil))) ds acc [s0, s1, s2, some (.own m), some (.val t), s5, s6, s7, s8, s9, none, s11, s12] = .ok (acc ++ xs) [s0, s1, s2, some (.own m'), some (.val t), s5, s6, s7, s8, s9, none, s11, s12] ∧ (∀ x ∈ xs, oks 10 x = true) ∧ St (T + 60 * ds.length) m' ∧ xs.length = ds.length
  | [], acc, T, m, hm, _ => ⟨[], m, by simp [sLcL], by simp, by simpa using hm, rfl⟩
  | e :: ds, acc, T, m, hm, hT => by
    simp only [List.length_cons] at hT ⊢
    obtain ⟨x, m1, e1, bt, s1'⟩ := P_bent ht 11 T m hm (by omega)
    have e1 : Φ 18 20 [.own m, .val t] = .ok x [.own m1, .val t] := e1
    obtain ⟨xs, m2, e2, g2, s2', l2⟩ := lcB ht s0 s1 s2 s5 s6 s7 s8 s9 s11 s12 ds (acc ++ [x]) (T + 60) m1 (s1'.le (by omega)) (by omega)
    refine ⟨x :: xs, m2, ?_, fun y hy => ?_, s2'.le (by omega), by simp [l2]⟩
    · unfold sLcL
      simp [runB, sSeq, sSet, sFz, sLs, sCons, sNil, sTup, sVar, sC, sRet, sOp, sHn, sHv, res, look, opAdd, ofOpt, O.bind, O.bindS, startS, inSlot, LIM, outsAt, outOf, sIsi, isX, isT, tyN, isA, sItL, sItT, gT, gC, gN, gZ, sTru, tru, sIfS, sOrT, sAndT, sNotT, sB, sAnd, sOr, sNot, sIf, sUn, fLen, sCall, sACons, sAv, sAs, sANil, slots, argsOf, argOf, putBack, put1, sPart, sExpr, sYes, e1, wipeS]
      rw [show acc ++ x :: xs = (acc ++ [x]) ++ xs by simp]
      exact e2
    · rcases List.mem_cons.mp hy with rfl | hy
      · exact bt
      · exact g2 y hy
theorem lcG {t : D} (s0 s1 s2 s5 s6 s7 s8 s9 s11 s12 : Option SD) : ∀ (ds acc : List D) (T : Int) (m : MO), St T m → T + 20 * ds.length ≤ 800000 →
    ∃ xs m', sLcL [10] (gN 10) sYes (sCall (Φ 18 21) [] (sACons (sAs 3) sANil)) ds acc [s0, s1, s2, some (.own m), some (.val t), s5, s6, s7, s8, s9, none, s11, s12] = .ok (acc ++ xs) [s0, s1, s2, some (.own m'), some (.val t), s5, s6, s7, s8, s9, none, s11, s12] ∧ (∀ x ∈ xs, oks 60 x = true) ∧ St (T + 20 * ds.length) m' ∧ xs.length = ds.length
  | [], acc, T, m, hm, _ => ⟨[], m, by simp [sLcL], by simp, by simpa using hm, rfl⟩
  | e :: ds, acc, T, m, hm, hT => by
    simp only [List.length_cons] at hT ⊢
    obtain ⟨x, m1, e1, bt, s1'⟩ := P_great 15 T m hm (by omega)
    have e1 : Φ 18 21 [.own m] = .ok x [.own m1] := e1
    obtain ⟨xs, m2, e2, g2, s2', l2⟩ := lcG (t := t) s0 s1 s2 s5 s6 s7 s8 s9 s11 s12 ds (acc ++ [x]) (T + 20) m1 s1' (by omega)
    refine ⟨x :: xs, m2, ?_, fun y hy => ?_, s2'.le (by omega), by simp [l2]⟩
    · unfold sLcL
      simp [runB, sSeq, sSet, sFz, sLs, sCons, sNil, sTup, sVar, sC, sRet, sOp, sHn, sHv, res, look, opAdd, ofOpt, O.bind, O.bindS, startS, inSlot, LIM, outsAt, outOf, sIsi, isX, isT, tyN, isA, sItL, sItT, gT, gC, gN, gZ, sTru, tru, sIfS, sOrT, sAndT, sNotT, sB, sAnd, sOr, sNot, sIf, sUn, fLen, sCall, sACons, sAv, sAs, sANil, slots, argsOf, argOf, putBack, put1, sPart, sExpr, sYes, e1, wipeS]
      rw [show acc ++ x :: xs = (acc ++ [x]) ++ xs by simp]
      exact e2
    · rcases List.mem_cons.mp hy with rfl | hy
      · exact bt
      · exact g2 y hy
theorem lc_go {vs : List Nat} {mi : SS → O (List D)} {g : D → SS → Option SS} {m : SS → O D} {σ σ1 σ2 σ3 : SS} {ds xs : List D} (h1 : mi σ = .ok ds σ1) (hp : plainAt σ1 vs = true) (hl : ds.length ≤ 16777216) (h2 : sLcL vs g sYes m ds [] (wipeS σ1 vs) = .ok xs σ2) (h3 : bringS σ1 σ2 vs = σ3) : sLc vs mi g sYes m σ = .ok xs σ3 := by
  unfold sLc
  rw [h1]
  simp only [O.bind, LIM, hp, hl, and_self, if_true, h2, h3]
theorem b5 {t : D} (ht : Ty 4 t) (T : Int) (m : MO) (hm : St T m) (hT : T + 300 ≤ 800000) (s0 s1 s2 s5 s6 s7 s8 s9 s10 s11 s12 : Option SD) (h10 : PL s10) :
    ∃ x1 x2 x3 x4 x5 m', sLc [10] (sRng1 (sC (.int 5))) (gN 10) sYes (sCall (Φ 18 20) [] (sACons (sAs 3) (sACons (sAv (sVar 4)) sANil))) [s0, s1, s2, some (.own m), some (.val t), s5, s6, s7, s8, s9, s10, s11, s12] = .ok [x1, x2, x3, x4, x5] [s0, s1, s2, some (.own m'), some (.val t), s5, s6, s7, s8, s9, s10, s11, s12] ∧ (∀ x ∈ [x1, x2, x3, x4, x5], oks 10 x = true) ∧ St (T + 300) m' := by
  have hu : (TL.upTo 0 5).length = 5 := by simp [TL.upTo]
  obtain ⟨xs, m', e, g, s, l⟩ := lcB ht s0 s1 s2 s5 s6 s7 s8 s9 s11 s12 (TL.upTo 0 5) [] T m hm (by rw [hu]; omega)
  rw [hu] at s l
  match xs, l with
  | [x1, x2, x3, x4, x5], _ =>
    refine ⟨x1, x2, x3, x4, x5, m', ?_, g, s.le (by omega)⟩
    rcases h10 with rfl | ⟨x, rfl⟩
    · exact lc_go (rng_1 (a := 5) rfl (r62n 5 (by decide))) rfl (by rw [hu]; decide) e rfl
    · exact lc_go (rng_1 (a := 5) rfl (r62n 5 (by decide))) rfl (by rw [hu]; decide) e rfl
theorem g4 {t : D} (T : Int) (m : MO) (hm : St T m) (hT : T + 80 ≤ 800000) (s0 s1 s2 s5 s6 s7 s8 s9 s10 s11 s12 : Option SD) (h10 : PL s10) :
    ∃ xs m', sLc [10] (sRng1 (sC (.int 4))) (gN 10) sYes (sCall (Φ 18 21) [] (sACons (sAs 3) sANil)) [s0, s1, s2, some (.own m), some (.val t), s5, s6, s7, s8, s9, s10, s11, s12] = .ok xs [s0, s1, s2, some (.own m'), some (.val t), s5, s6, s7, s8, s9, s10, s11, s12] ∧ (∀ x ∈ xs, oks 60 x = true) ∧ St (T + 80) m' ∧ xs.length = 4 := by
  have hu : (TL.upTo 0 4).length = 4 := by simp [TL.upTo]
  obtain ⟨xs, m', e, g, s, l⟩ := lcG (t := t) s0 s1 s2 s5 s6 s7 s8 s9 s11 s12 (TL.upTo 0 4) [] T m hm (by rw [hu]; omega)
  rw [hu] at s l
  refine ⟨xs, m', ?_, g, s.le (by omega), l⟩
  rcases h10 with rfl | ⟨x, rfl⟩
  · exact lc_go (rng_1 (a := 4) rfl (r62n 4 (by decide))) rfl (by rw [hu]; decide) e rfl
  · exact lc_go (rng_1 (a := 4) rfl (r62n 4 (by decide))) rfl (by rw [hu]; decide) e rfl
/-! ### one cell -/
def oddL (t : D) : List D := [.non, .lst [t], .str "one", .tup [t, t, t, t, t, t, t], .int 5]
theorem odd_bad {t d : D} (h : d ∈ oddL t) : (∃ s, tyN d = some s) ∧ ((∀ ds, d ≠ .tup ds) ∨ ∃ ds, d = .tup ds ∧ 6 < ds.length) := by
  simp only [oddL, List.mem_cons, List.not_mem_nil, or_false] at h
  rcases h with rfl | rfl | rfl | rfl | rfl
  · exact ⟨⟨_, rfl⟩, .inl fun _ e => (by cases e)⟩
  · exact ⟨⟨_, rfl⟩, .inl fun _ e => (by cases e)⟩
  · exact ⟨⟨_, rfl⟩, .inl fun _ e => (by cases e)⟩
  · exact ⟨⟨_, rfl⟩, .inr ⟨_, rfl, by simp⟩⟩
  · exact ⟨⟨_, rfl⟩, .inl fun _ e => (by cases e)⟩
theorem odd_nl {t d : D} (ht : noLam t = true) (h : d ∈ oddL t) : noLam d = true := by
  simp only [oddL, List.mem_cons, List.not_mem_nil, or_false] at h
  rcases h with rfl | rfl | rfl | rfl | rfl <;> simp [noLam, noLamL, ht]
theorem turnC (S : Option SD) (k : Nat) (hk : k ≤ 4) (c : Int) (s3 s4 s5 s6 s7 s8 s9 s10 s11 s12 : Option SD) (h10 : PL s10) (h12 : PL s12) :
    ∃ r3 r4 r5 r6 r7 r8 r9 r11, lb_23_9 (Φ 18) (Φ 15) [S, some (.val (.int (k : Nat))), some (.val (.int c)), s3, s4, s5, s6, s7, s8, s9, s10, s11, s12] =
      .nx [S, some (.val (.int (k : Nat))), some (.val (.int c)), r3, r4, r5, r6, r7, r8, r9, s10, r11, s12] := by
  obtain ⟨l, ed⟩ := draw 17 c (k : Int)
  have hm : St 4000 (st l c (1000 * (k : Int))) := ⟨l, c, _, rfl, by omega, by omega⟩
  obtain ⟨t, m1, e1, ht, t1⟩ := P_type 4 11 4000 _ hm (by decide)
  have e1 : Φ 18 16 [.own (st l c (1000 * (k : Int))), .val (.int 4)] = .ok t [.own m1, .val (.int 4)] := e1
  have t1 : St 4248 m1 := t1
  obtain ⟨u, m2, e2, hu, t2⟩ := P_type 2 13 4248 _ t1 (by decide)
  have e2 : Φ 18 16 [.own m1, .val (.int 2)] = .ok u [.own m2, .val (.int 2)] := e2
  have t2 : St 4304 m2 := t2
  let K : Option SD := some (.val (.int (k : Nat)))
  let Z : Option SD := some (.val (.int c))
  obtain ⟨x1, x2, x3, x4, x5, m3, e3, o3, t3⟩ := b5 ht 4304 m2 t2 (by decide) S K Z (some (.val u)) s6 s7 s8 s9 s10 s11 s12 h10
  let B5 : List D := [x1, x2, x3, x4, x5]
  let B8 : List D := [x1, x2, x3, x4, x5, .tup [.str "both", x1, x2], .tup [.str "to", .tup [.str "either", u, x3], x4], .tup [.str "to", t, .tup [.str "one", x5]]]
  obtain ⟨xs, m4, e4, o4, t4, l4⟩ := g4 (t := t) 4604 m3 (t3.le (by decide)) (by decide) S K Z (some (.val u)) (some (.own (.lst B8))) s7 s8 s9 s10 s11 s12 h10
  have ot : oks 5 t = true := ht.oks
  have ou : oks 3 u = true := hu.oks
  have oB : ∀ x ∈ B8, oks 150 x = true := fun x hx => by
    have a1 := oks_mono (show 10 ≤ 149 by decide) (o3 x1 (by simp))
    have a2 := oks_mono (show 10 ≤ 149 by decide) (o3 x2 (by simp))
    have a3 := oks_mono (show 10 ≤ 148 by decide) (o3 x3 (by simp))
    have a4 := oks_mono (show 10 ≤ 149 by decide) (o3 x4 (by simp))
    have a5 := oks_mono (show 10 ≤ 148 by decide) (o3 x5 (by simp))
    have b1 := oks_mono (show 5 ≤ 149 by decide) ot
    have b2 := oks_mono (show 3 ≤ 148 by decide) ou
    simp only [B8, List.mem_cons, List.not_mem_nil, or_false] at hx
    rcases hx with rfl | rfl | rfl | rfl | rfl | rfl | rfl | rfl
    · exact oks_mono (by decide) (o3 _ (by simp))
    · exact oks_mono (by decide) (o3 _ (by simp))
    · exact oks_mono (by decide) (o3 _ (by simp))
    · exact oks_mono (by decide) (o3 _ (by simp))
    · exact oks_mono (by decide) (o3 _ (by simp))
    · simp [oks, oksL, a1, a2]
    · simp [oks, oksL, a3, a4, b2]
    · simp [oks, oksL, a5, b1]
  obtain ⟨r7, r9, r11, e5⟩ := loopI ht hu S K Z (some (.own m4)) (some (.own (.lst B8))) s8 s10 s12 ([t] ++ xs ++ B8) s7 s9 s11 (fun x hx => by
    rcases List.mem_append.mp hx with hx | hx
    · rcases List.mem_append.mp hx with hx | hx
      · rw [List.mem_singleton.mp hx]; exact oks_mono (by decide) ot
      · exact oks_mono (by decide) (o4 x hx)
    · exact oB x hx)
  have e6 : lf_23_6 (Φ 18) (Φ 15) [S, K, Z, some (.own m3), some (.val t), some (.val u), some (.own (.lst B8)), s7, s8, s9, s10, s11, s12] = .nx [S, K, Z, some (.own m4), some (.val t), some (.val u), some (.own (.lst B8)), r7, s8, r9, s10, r11, s12] := by
    refine (for_go (ds := [t] ++ xs ++ B8) (σ1 := [S, K, Z, some (.own m4), some (.val t), some (.val u), some (.own (.lst B8)), s7, s8, s9, s10, s11, s12]) ?_).trans e5
    have lB : B8.length = 8 := rfl
    have lx : 1 + xs.length ≤ 16777216 := by omega
    have lx2 : 1 + xs.length + B8.length ≤ 16777216 := by omega
    have lx3 : xs.length + 1 ≤ 16777216 := by omega
    have lx4 : xs.length + B8.length + 1 ≤ 16777216 := by omega
    have lx5 : xs.length + 1 + B8.length ≤ 16777216 := by omega
    generalize B8 = B at e4 lx2 lx4 lx5 ⊢
    generalize sLc [10] (sRng1 (sC (.int 4))) (gN 10) sYes (sCall (Φ 18 21) [] (sACons (sAs 3) sANil)) = X at e4 ⊢
    simp [runB, sSeq, sSet, sFz, sLs, sCons, sNil, sTup, sVar, sC, sRet, sOp, sHn, sHv, res, look, opAdd, ofOpt, O.bind, O.bindS, startS, inSlot, LIM, outsAt, outOf, sIsi, isX, isT, tyN, isA, sItL, sItT, gT, gC, gN, gZ, sTru, tru, sIfS, sOrT, sAndT, sNotT, sB, sAnd, sOr, sNot, sIf, sUn, fLen, sCall, sACons, sAv, sAs, sANil, slots, argsOf, argOf, putBack, put1, sPart, sExpr, e4, lx, lx2, lx3, lx4, lx5]
  have eS : Φ 18 8 [.val t] = .ok (.int (sz 4 t)) [.val t] := P_size 13 ht (by decide)
  have eK : Φ 18 22 [.val t] = .ok (key 4 t) [.val t] := Q_key ht (by decide) 12
  have eU : Φ 18 22 [.val u] = .ok (key 2 u) [.val u] := Q_key hu (by decide) 14
  obtain ⟨b, eB, eC⟩ := P_before 9 ht (by decide) hu (by decide)
  have eB : Φ 18 12 [.val t, .val u] = .ok (.bl b) [.val t, .val u] := eB
  have eA : Φ 18 10 [.val t] = .ok (.str (atx (hasS "a" 4 t) (hasS "b" 4 t))) [.val t] := P_atoms 13 ht (by decide)
  have okA : PyData.strOk (atx (hasS "a" 4 t) (hasS "b" 4 t)) = true := by
    cases hasS "a" 4 t <;> cases hasS "b" 4 t <;> simp [atx]
  obtain ⟨od, hod, mod⟩ := opIx_mem (L := oddL t) (i := (k : Int)) (by omega) (by show (k : Int) < 5; omega)
  have nlt := ok_nolam (oks_ok ot)
  have eO := lt8 (Φ 18) (odd_nl nlt mod) (odd_bad mod) (σ := [S, K, Z, some (.own m4), some (.val t), some (.val u), some (.own (.lst B8)), r7, some (.val od), r9, s10, r11, s12]) rfl
  have eN : Φ 18 6 [.val (.tup [t, t, t, t, t, t])] = .ok .non [.val (.tup [t, t, t, t, t, t])] := P_ni_ok 12 _ (by simp) (fun d hd => by
    have : d = t := by simpa using hd
    subst this
    exact ⟨oks_mono (by decide) ot, ht.wr (by decide)⟩)
  obtain ⟨xI, hxI⟩ := rI
  obtain ⟨rk, hk1⟩ := key_hd ht
  have hk0 : opIx (key 4 t) (.int 0) = some (.int (sz 4 t)) := by
    rw [hk1]
    have : 0 < (rk.length : Int) + 1 := by omega
    simp [opIx, atI, ixN, this]
  have eJ := compA ht (by decide) S K Z (some (.own m4)) (some (.val u)) (some (.own (.lst B8))) r7 s8 r9 s10 r11 s12 h12
  refine ⟨some (.own m4), some (.val t), some (.val u), some (.own (.lst B8)), r7, some (.val od), r9, r11, ?_⟩
  show lb_23_9 (Φ 18) (Φ 15) [S, K, Z, s3, s4, s5, s6, s7, s8, s9, s10, s11, s12] = _
  rw [v_23_0]
  refine (seq_nx (σ1 := [S, K, Z, some (.own (st l c (1000 * (k : Int)))), s4, s5, s6, s7, s8, s9, s10, s11, s12]) (by simp [runB, sSeq, sSet, sFz, sLs, sCons, sNil, sTup, sVar, sC, sRet, sOp, sHn, sHv, res, look, opAdd, ofOpt, O.bind, O.bindS, startS, inSlot, LIM, outsAt, outOf, sIsi, isX, isT, tyN, isA, sItL, sItT, gT, gC, gN, gZ, sTru, tru, sIfS, sOrT, sAndT, sNotT, sB, sAnd, sOr, sNot, sIf, sUn, fLen, sCall, sACons, sAv, sAs, sANil, slots, argsOf, argOf, putBack, put1, sPart, sExpr, u_23_0f0, K, Z, sOwnM, sCallM, ed])).trans ?_
  refine (seq_nx (σ1 := [S, K, Z, some (.own m2), some (.val t), some (.val u), s6, s7, s8, s9, s10, s11, s12]) (by simp [runB, sSeq, sSet, sFz, sLs, sCons, sNil, sTup, sVar, sC, sRet, sOp, sHn, sHv, res, look, opAdd, ofOpt, O.bind, O.bindS, startS, inSlot, LIM, outsAt, outOf, sIsi, isX, isT, tyN, isA, sItL, sItT, gT, gC, gN, gZ, sTru, tru, sIfS, sOrT, sAndT, sNotT, sB, sAnd, sOr, sNot, sIf, sUn, fLen, sCall, sACons, sAv, sAs, sANil, slots, argsOf, argOf, putBack, put1, sPart, sExpr, u_23_0f1, sAsg, e1, e2])).trans ?_
  refine (seq_nx (σ1 := [S, K, Z, some (.own m3), some (.val t), some (.val u), some (.own (.lst B5)), s7, s8, s9, s10, s11, s12]) ?_).trans ?_
  · unfold u_23_0f2 sOwn
    rw [e3]; rfl
  refine (seq_nx (σ1 := [S, K, Z, some (.own m3), some (.val t), some (.val u), some (.own (.lst B8)), s7, s8, s9, s10, s11, s12]) (by simp [runB, sSeq, sSet, sFz, sLs, sCons, sNil, sTup, sVar, sC, sRet, sOp, sHn, sHv, res, look, opAdd, ofOpt, O.bind, O.bindS, startS, inSlot, LIM, outsAt, outOf, sIsi, isX, isT, tyN, isA, sItL, sItT, gT, gC, gN, gZ, sTru, tru, sIfS, sOrT, sAndT, sNotT, sB, sAnd, sOr, sNot, sIf, sUn, fLen, sCall, sACons, sAv, sAs, sANil, slots, argsOf, argOf, putBack, put1, sPart, sExpr, u_23_0f3, sOwn, sCat, B5, B8, opIx, atI, ixN])).trans ?_
  refine (seq_nx e6).trans ?_
  generalize B8 = B at eO eJ ⊢
  refine (seq_nx (σ1 := [S, K, Z, some (.own m4), some (.val t), some (.val u), some (.own (.lst B)), r7, s8, r9, s10, r11, s12]) ?_).trans ?_
  · have hr : ∃ z, fReprA (.bl b) = some (.str z) := ⟨_, rfl⟩
    obtain ⟨z, hz⟩ := hr
    generalize key 4 t = k4 at eK eC hk0
    generalize key 2 u = k2 at eU eC
    simp [runB, sSeq, sSet, sFz, sLs, sCons, sNil, sTup, sVar, sC, sRet, sOp, sHn, sHv, res, look, opAdd, ofOpt, O.bind, O.bindS, startS, inSlot, LIM, outsAt, outOf, sIsi, isX, isT, tyN, isA, sItL, sItT, gT, gC, gN, gZ, sTru, tru, sIfS, sOrT, sAndT, sNotT, sB, sAnd, sOr, sNot, sIf, sUn, fLen, sCall, sACons, sAv, sAs, sANil, slots, argsOf, argOf, putBack, put1, sPart, sExpr, u_23_0f5, c_23_0f5, eS, eK, hk0, eU, eB, eC, hz, cNeS_refl, cNe, ok, dqi]
  refine (seq_nx (σ1 := [S, K, Z, some (.own m4), some (.val t), some (.val u), some (.own (.lst B)), r7, s8, r9, s10, r11, s12]) ?_).trans ?_
  · refine if_no ?_
    unfold c_23_0f6
    generalize (sJoin (sC (.str "")) (sHv (sFz (sLc [12] (sItS (sC (.str "ab"))) (gN 12) (sB (sOp cIn (sHv (sUn fReprA (sHv (sTup (sCons (sC (.str "atom")) (sCons (sVar 12) sNil)))))) (sHv (sUn fReprA (sHn 4))))) (sVar 12))))) = X at eJ ⊢
    generalize atx (hasS "a" 4 t) (hasS "b" 4 t) = A at eJ eA okA
    simp [runB, sSeq, sSet, sFz, sLs, sCons, sNil, sTup, sVar, sC, sRet, sOp, sHn, sHv, res, look, opAdd, ofOpt, O.bind, O.bindS, startS, inSlot, LIM, outsAt, outOf, sIsi, isX, isT, tyN, isA, sItL, sItT, gT, gC, gN, gZ, sTru, tru, sIfS, sOrT, sAndT, sNotT, sB, sAnd, sOr, sNot, sIf, sUn, fLen, sCall, sACons, sAv, sAs, sANil, slots, argsOf, argOf, putBack, put1, sPart, sExpr, eA, eJ, cNe, ok, okA, dqs]
  refine (seq_nx (σ1 := [S, K, Z, some (.own m4), some (.val t), some (.val u), some (.own (.lst B)), r7, some (.val od), r9, s10, r11, s12]) ?_).trans ?_
  · unfold oddL at hod
    have m7 : opMul (.tup [t]) (.int 7) = some (.tup [t, t, t, t, t, t, t]) := rfl
    simp [runB, sSeq, sSet, sFz, sLs, sCons, sNil, sTup, sVar, sC, sRet, sOp, sHn, sHv, res, look, opAdd, ofOpt, O.bind, O.bindS, startS, inSlot, LIM, outsAt, outOf, sIsi, isX, isT, tyN, isA, sItL, sItT, gT, gC, gN, gZ, sTru, tru, sIfS, sOrT, sAndT, sNotT, sB, sAnd, sOr, sNot, sIf, sUn, fLen, sCall, sACons, sAv, sAs, sANil, slots, argsOf, argOf, putBack, put1, sPart, sExpr, u_23_0f7, m7, hod, K]
  · have m6 : opMul (.tup [t]) (.int 6) = some (.tup [t, t, t, t, t, t]) := rfl
    have eO : sLam 4 m_17 (lamRes 13 [8] (lm_23_8 (Φ 18) (Φ 15))) [8] [S, K, Z, some (.own m4), some (.val t), some (.val u), some (.own (.lst B)), r7, some (.val od), r9, s10, r11, s12] = .ok (.tup [.str "inputs", .non]) _ := eO
    simp [runB, sSeq, sSet, sFz, sLs, sCons, sNil, sTup, sVar, sC, sRet, sOp, sHn, sHv, res, look, opAdd, ofOpt, O.bind, O.bindS, startS, inSlot, LIM, outsAt, outOf, sIsi, isX, isT, tyN, isA, sItL, sItT, gT, gC, gN, gZ, sTru, tru, sIfS, sOrT, sAndT, sNotT, sB, sAnd, sOr, sNot, sIf, sUn, fLen, sCall, sACons, sAv, sAs, sANil, slots, argsOf, argOf, putBack, put1, sPart, sExpr, u_23_0f8, c_23_0f8, eO, hxI, cNeS_refl, m6, eN, cIsNot, TL.isNon, K, Z]
def Fr (S : D) (σ : SS) : Prop := ∃ a1 a2 a3 a4 a5 a6 a7 a8 a9 a10 a11 a12, σ = [some (.val S), a1, a2, a3, a4, a5, a6, a7, a8, a9, a10, a11, a12] ∧ PL a10 ∧ PL a12
theorem law_true (ns : List Int) (hn : ns.length ≤ 63) (_hb : ∀ z ∈ ns, Builtin.Int.intBits z ≤ 1048576) : ∃ outs, runB 13 1 (m_23 (Φ 18) (Φ 15)) [.val (.lst (ns.map D.int))] = .ok (.bl true) outs := by
  obtain ⟨ms, hms, hl⟩ : ∃ ms : List Int, cut (ns.map D.int) none (some 4) = ms.map D.int ∧ ms.length ≤ 4 := by
    refine ⟨ns.take (min 4 ns.length), ?_, by simp; omega⟩
    unfold cut
    rw [List.length_map, show HT.sIx ns.length ns.length (some 4) = min 4 ns.length from HT.sIx_nat _ _ 4, HT.sIx_none]
    simp [List.map_take]
  have src : ∀ d ∈ num (ms.map D.int ++ [.int ns.sum]), ∃ (kk : Nat) (cell : Int), kk ≤ 4 ∧ d = .tup [.int kk, .int cell] := fun d hd => by
    obtain ⟨i, hi, e⟩ := num_mem hd
    have hi2 : i < ms.length + 1 := by simpa using hi
    by_cases h : i < ms.length
    · exact ⟨i, ms[i], by omega, by rw [e, List.getElem_append_left (by simpa using h)]; simp⟩
    · exact ⟨i, ns.sum, by omega, by rw [e, List.getElem_append_right (by simpa using h)]; simp⟩
  obtain ⟨σ, e1, b1, b2, b3, b4, b5, b6, b7, b8, b9, b10, b11, b12, rfl, p10, p12⟩ := forL_all (g := gT (gC (gN 1) (gC (gN 2) gZ))) (b := lb_23_9 (Φ 18) (Φ 15)) (Fr (.lst (ns.map D.int))) _ (fun d σ hd hσ => by
    obtain ⟨kk, cell, hk, rfl⟩ := hd
    obtain ⟨a1, a2, a3, a4, a5, a6, a7, a8, a9, a10, a11, a12, rfl, pl, pl2⟩ := hσ
    obtain ⟨r3, r4, r5, r6, r7, r8, r9, r11, e⟩ := turnC (some (.val (.lst (ns.map D.int)))) kk hk cell a3 a4 a5 a6 a7 a8 a9 a10 a11 a12 pl pl2
    exact ⟨_, _, rfl, e, _, _, _, _, _, _, _, _, _, _, _, _, rfl, pl, pl2⟩) (num (ms.map D.int ++ [.int ns.sum])) [some (.val (.lst (ns.map D.int))), none, none, none, none, none, none, none, none, none, none, none, none] src ⟨_, _, _, _, _, _, _, _, _, _, _, _, rfl, .inl rfl, .inl rfl⟩
  have lenm : ms.length + 1 ≤ 16777216 := by omega
  have hi : (sEnum (sOp opAdd (sHv (sSl (sHn 0) (fun σ => .ok none σ) (sPart (sC (.int 4))))) (sHv (sFz (sLs (sCons (sUn fSum (sHn 0)) sNil)))))) [some (.val (.lst (ns.map D.int))), none, none, none, none, none, none, none, none, none, none, none, none] = .ok (num (ms.map D.int ++ [.int ns.sum])) [some (.val (.lst (ns.map D.int))), none, none, none, none, none, none, none, none, none, none, none, none] := by
    simp [runB, sSeq, sSet, sFz, sLs, sCons, sNil, sTup, sVar, sC, sRet, sOp, sHn, sHv, res, look, opAdd, ofOpt, O.bind, O.bindS, startS, inSlot, LIM, outsAt, outOf, sIsi, isX, isT, tyN, isA, sItL, sItT, gT, gC, gN, gZ, sTru, tru, sIfS, sOrT, sAndT, sNotT, sB, sAnd, sOr, sNot, sIf, sUn, fLen, sCall, sACons, sAv, sAs, sANil, slots, argsOf, argOf, putBack, put1, sPart, sExpr, sEnum, sSl, opSl, hms, fSum, TL.ints_of, lenm]
  have eF : lf_23_9 (Φ 18) (Φ 15) [some (.val (.lst (ns.map D.int))), none, none, none, none, none, none, none, none, none, none, none, none] = _ := (for_go hi).trans e1
  have e0 : Φ 18 6 [.val (.tup [])] = .ok .non [.val (.tup [])] := P_ni_ok 12 [] (by decide) (fun d hd => by cases hd)
  refine ⟨[.val (.lst (ns.map D.int))], runB_rt rfl (σ := [some (.val (.lst (ns.map D.int))), b1, b2, b3, b4, b5, b6, b7, b8, b9, b10, b11, b12]) ?_ rfl⟩
  unfold m_23
  refine (seq_nx eF).trans ?_
  simp [runB, sSeq, sSet, sFz, sLs, sCons, sNil, sTup, sVar, sC, sRet, sOp, sHn, sHv, res, look, opAdd, ofOpt, O.bind, O.bindS, startS, inSlot, LIM, outsAt, outOf, sIsi, isX, isT, tyN, isA, sItL, sItT, gT, gC, gN, gZ, sTru, tru, sIfS, sOrT, sAndT, sNotT, sB, sAnd, sOr, sNot, sIf, sUn, fLen, sCall, sACons, sAv, sAs, sANil, slots, argsOf, argOf, putBack, put1, sPart, sExpr, e0, cIs, TL.isNon]
end LW

set_option Elab.async false
set_option linter.all false
set_option maxRecDepth 100000
set_option maxHeartbeats 0
namespace LW
open PySem PySem.Spec PyProof.Rows L2 TL
section
variable {P : Program} {w : World} {K : PySem.W.Frag} {mg : Str → Option Value} {base : Heap} {fa : Nat → Addr} {fd : Nat → FuncData} {ca ci : Nat → Addr} {cd : Nat → FuncData} {ka : Nat → Addr} {kt : Nat → Nat} {aS PL CLw : Addr}
theorem all_fn (T : Txt P w K mg base fa fd ca ci cd ka kt aS PL CLw) (F0 : Fun K "is_atom" "is_atom" s_0 (fa 0) (fd 0)) (F1 : Fun K "has_type_shape" "has_type_shape" s_1 (fa 1) (fd 1)) (F2 : Fun K "wrong_type" "wrong_type" s_2 (fa 2) (fd 2)) (F3 : Fun K "is_type" "is_type" s_3 (fa 3) (fd 3)) (F4 : Fun K "need_type" "need_type" s_4 (fa 4) (fd 4)) (F5 : Fun K "wrong_inputs" "wrong_inputs" s_5 (fa 5) (fd 5)) (F6 : Fun K "need_inputs" "need_inputs" s_6 (fa 6) (fd 6)) (F7 : Fun K "own_size" "own_size" s_7 (fa 7) (fd 7)) (F8 : Fun K "size_of_type" "size_of_type" s_8 (fa 8) (fd 8)) (F9 : Fun K "own_atoms" "own_atoms" s_9 (fa 9) (fd 9)) (F10 : Fun K "atoms_of" "atoms_of" s_10 (fa 10) (fd 10)) (F11 : Fun K "type_key" "type_key" s_11 (fa 11) (fd 11)) (F12 : Fun K "is_type_before" "is_type_before" s_12 (fa 12) (fd 12)) (F13 : Fun K "_law_mixed" "_law_mixed" s_13 (fa 13) (fd 13)) (F14 : Fun K "_law_draw" "_law_draw" s_14 (fa 14) (fd 14)) (F15 : Fun K "_law_digit" "_law_digit" s_15 (fa 15) (fd 15)) (F16 : Fun K "_law_type" "_law_type" s_16 (fa 16) (fd 16)) (F18 : Fun K "_law_shape" "_law_shape" s_18 (fa 18) (fd 18)) (F19 : Fun K "_law_wrong" "_law_wrong" s_19 (fa 19) (fd 19)) (F20 : Fun K "_law_bent" "_law_bent" s_20 (fa 20) (fd 20)) (F21 : Fun K "_law_great" "_law_great" s_21 (fa 21) (fd 21)) (F22 : Fun K "_law_key" "_law_key" s_22 (fa 22) (fd 22)) : ∀ k j, j < 24 → FnT P w K mg base (cn K ca PL) k (fa j) (fd j) (psT j) (Φ k j)
  | 0, _, _ => fnT_bad
  | k + 1, 0, _ => fnT_fun F0 sc_0 fun cdv A outer s H E hr => d_0 T (all_fn T F0 F1 F2 F3 F4 F5 F6 F7 F8 F9 F10 F11 F12 F13 F14 F15 F16 F18 F19 F20 F21 F22 k) hr
  | k + 1, 1, _ => fnT_fun F1 sc_1 fun cdv A outer s H E hr => d_1 T (all_fn T F0 F1 F2 F3 F4 F5 F6 F7 F8 F9 F10 F11 F12 F13 F14 F15 F16 F18 F19 F20 F21 F22 k) hr
  | k + 1, 2, _ => fnT_fun F2 sc_2 fun cdv A outer s H E hr => d_2 T (all_fn T F0 F1 F2 F3 F4 F5 F6 F7 F8 F9 F10 F11 F12 F13 F14 F15 F16 F18 F19 F20 F21 F22 k) hr
  | k + 1, 3, _ => fnT_fun F3 sc_3 fun cdv A outer s H E hr => d_3 T (all_fn T F0 F1 F2 F3 F4 F5 F6 F7 F8 F9 F10 F11 F12 F13 F14 F15 F16 F18 F19 F20 F21 F22 k) hr
  | k + 1, 4, _ => fnT_fun F4 sc_4 fun cdv A outer s H E hr => d_4 T (all_fn T F0 F1 F2 F3 F4 F5 F6 F7 F8 F9 F10 F11 F12 F13 F14 F15 F16 F18 F19 F20 F21 F22 k) hr
  | k + 1, 5, _ => fnT_fun F5 sc_5 fun cdv A outer s H E hr => d_5 T (all_fn T F0 F1 F2 F3 F4 F5 F6 F7 F8 F9 F10 F11 F12 F13 F14 F15 F16 F18 F19 F20 F21 F22 k) hr
  | k + 1, 6, _ => fnT_fun F6 sc_6 fun cdv A outer s H E hr => d_6 T (all_fn T F0 F1 F2 F3 F4 F5 F6 F7 F8 F9 F10 F11 F12 F13 F14 F15 F16 F18 F19 F20 F21 F22 k) hr
  | k + 1, 7, _ => fnT_fun F7 sc_7 fun cdv A outer s H E hr => d_7 T (all_fn T F0 F1 F2 F3 F4 F5 F6 F7 F8 F9 F10 F11 F12 F13 F14 F15 F16 F18 F19 F20 F21 F22 k) hr
  | k + 1, 8, _ => fnT_fun F8 sc_8 fun cdv A outer s H E hr => d_8 T (all_fn T F0 F1 F2 F3 F4 F5 F6 F7 F8 F9 F10 F11 F12 F13 F14 F15 F16 F18 F19 F20 F21 F22 k) hr
  | k + 1, 9, _ => fnT_fun F9 sc_9 fun cdv A outer s H E hr => d_9 T (all_fn T F0 F1 F2 F3 F4 F5 F6 F7 F8 F9 F10 F11 F12 F13 F14 F15 F16 F18 F19 F20 F21 F22 k) hr
  | k + 1, 10, _ => fnT_fun F10 sc_10 fun cdv A outer s H E hr => d_10 T (all_fn T F0 F1 F2 F3 F4 F5 F6 F7 F8 F9 F10 F11 F12 F13 F14 F15 F16 F18 F19 F20 F21 F22 k) hr
  | k + 1, 11, _ => fnT_fun F11 sc_11 fun cdv A outer s H E hr => d_11 T (all_fn T F0 F1 F2 F3 F4 F5 F6 F7 F8 F9 F10 F11 F12 F13 F14 F15 F16 F18 F19 F20 F21 F22 k) hr
  | k + 1, 12, _ => fnT_fun F12 sc_12 fun cdv A outer s H E hr => d_12 T (all_fn T F0 F1 F2 F3 F4 F5 F6 F7 F8 F9 F10 F11 F12 F13 F14 F15 F16 F18 F19 F20 F21 F22 k) hr
  | k + 1, 13, _ => fnT_fun F13 sc_13 fun cdv A outer s H E hr => d_13 T (all_fn T F0 F1 F2 F3 F4 F5 F6 F7 F8 F9 F10 F11 F12 F13 F14 F15 F16 F18 F19 F20 F21 F22 k) hr
  | k + 1, 14, _ => fnT_fun F14 sc_14 fun cdv A outer s H E hr => d_14 T (all_fn T F0 F1 F2 F3 F4 F5 F6 F7 F8 F9 F10 F11 F12 F13 F14 F15 F16 F18 F19 F20 F21 F22 k) hr
  | k + 1, 15, _ => fnT_fun F15 sc_15 fun cdv A outer s H E hr => d_15 T (all_fn T F0 F1 F2 F3 F4 F5 F6 F7 F8 F9 F10 F11 F12 F13 F14 F15 F16 F18 F19 F20 F21 F22 k) hr
  | k + 1, 16, _ => fnT_fun F16 sc_16 fun cdv A outer s H E hr => d_16 T (all_fn T F0 F1 F2 F3 F4 F5 F6 F7 F8 F9 F10 F11 F12 F13 F14 F15 F16 F18 F19 F20 F21 F22 k) hr
  | k + 1, 17, _ => fnT_bad
  | k + 1, 18, _ => fnT_fun F18 sc_18 fun cdv A outer s H E hr => d_18 T (all_fn T F0 F1 F2 F3 F4 F5 F6 F7 F8 F9 F10 F11 F12 F13 F14 F15 F16 F18 F19 F20 F21 F22 k) hr
  | k + 1, 19, _ => fnT_fun F19 sc_19 fun cdv A outer s H E hr => d_19 T (all_fn T F0 F1 F2 F3 F4 F5 F6 F7 F8 F9 F10 F11 F12 F13 F14 F15 F16 F18 F19 F20 F21 F22 k) hr
  | k + 1, 20, _ => fnT_fun F20 sc_20 fun cdv A outer s H E hr => d_20 T (all_fn T F0 F1 F2 F3 F4 F5 F6 F7 F8 F9 F10 F11 F12 F13 F14 F15 F16 F18 F19 F20 F21 F22 k) hr
  | k + 1, 21, _ => fnT_fun F21 sc_21 fun cdv A outer s H E hr => d_21 T (all_fn T F0 F1 F2 F3 F4 F5 F6 F7 F8 F9 F10 F11 F12 F13 F14 F15 F16 F18 F19 F20 F21 F22 k) hr
  | k + 1, 22, _ => fnT_fun F22 sc_22 fun cdv A outer s H E hr => d_22 T (all_fn T F0 F1 F2 F3 F4 F5 F6 F7 F8 F9 F10 F11 F12 F13 F14 F15 F16 F18 F19 F20 F21 F22 k) hr
  | k + 1, 23, _ => fnT_bad
  | k + 1, n + 24, h => absurd h (by omega)
end
theorem all_mk {P : Program} {w : World} {K : PySem.W.Frag} {h : Heap} {mg : Str → Option Value} {fl : Addr} {ts : List Addr} (hT : ∀ p ∈ ts, h.get? p = some (PySem.W.tabObj #[])) (X : K.In h) (G : h.Ns mainGlobals mg) (hfl : mg "law" = some (.ref fl))
    {aS cL pL c0 fi0 c1 fi1 c2 fi2 c3 fi3 aT0 aT1 aT3 f0 f1 f2 f3 f4 f5 f6 f7 f8 f9 f10 f11 f12 f13 f14 f15 f16 f17 f18 f19 f20 f21 f22 f23 ak1 : Addr} {oS oL oT0 oT1 oT3 oc0 oi0 oc1 oi1 oc2 oi2 oc3 oi3 of0 of1 of2 of3 of4 of5 of6 of7 of8 of9 of10 of11 of12 of13 of14 of15 of16 of17 of18 of19 of20 of21 of22 of23 ok1 : Obj} {dv0 cv0 dv1 cv1 dv2 cv2 dv3 cv3 cw0 cw1 cw2 cw3 cw4 cw5 cw6 cw7 cw8 cw9 cw10 cw11 cw12 cw13 cw14 cw15 cw16 cw17 cw18 cw19 cw20 cw21 cw22 : Value} {tk0 tk2 tk3 tk4 : Tok}
    (gS : PySem.W.nsIn K mainGlobals "SameError" = some (some (.ref aS)))
    (lS : K.lookup aS = some oS)
    (eS : ∃ q N bs sn sub ab col dd k0 k1 k2 k3 k5, oS = excClassObj "SameError" q aS N bs (bmOf aS 3) true sn sub ab col dd k0 k1 k2 k3 k5 (newOf 3))
    (tS : PySem.W.typeIn K (.ref aS) = some (.type "type"))
    (rS : PySem.W.readsIn K aS (.type "type") = true)
    (sS : PySem.W.specialIn K (.ref aS) "__getattribute__" = some (some (.builtin "type.__getattribute__")))
    (fS : PySem.W.findCls K (.ref aS) (.type "type") "__init__" = some (.val (.builtin "ValueError.__init__")))
    (fB1 : PySem.W.findCls K (.type "OverflowError") (.type "type") "__init__" = some (.val (.builtin "OverflowError.__init__")))
    (fB2 : PySem.W.findCls K (.type "LookupError") (.type "type") "__init__" = some (.val (.builtin "LookupError.__init__")))
    (a0 : PySem.W.nsIn K mainGlobals "BadType" = some (some (.ref c0)))
    (z0 : KCls K aS 0 "BadType" "place" c0 oc0)
    (y0 : KIni K "BadType.__init__" i_0 c0 fi0 oi0 dv0 cv0)
    (w0 : dv0 = .ref aT0)
    (v0 : K.lookup aT0 = some oT0)
    (x0 : ∃ cl dd n sl, oT0 = ⟨cl, dd, .seq #[.none] n, sl⟩)
    (a1 : PySem.W.nsIn K mainGlobals "BadInputs" = some (some (.ref c1)))
    (z1 : KCls K aS 0 "BadInputs" "place" c1 oc1)
    (y1 : KIni K "BadInputs.__init__" i_1 c1 fi1 oi1 dv1 cv1)
    (w1 : dv1 = .ref aT1)
    (v1 : K.lookup aT1 = some oT1)
    (x1 : ∃ cl dd n sl, oT1 = ⟨cl, dd, .seq #[.none] n, sl⟩)
    (a2 : PySem.W.nsIn K mainGlobals "TooMany" = some (some (.ref c2)))
    (z2 : KCls K aS 1 "TooMany" "most" c2 oc2)
    (y2 : KIni K "TooMany.__init__" i_2 c2 fi2 oi2 dv2 cv2)
    (w2 : dv2 = .none)
    (a3 : PySem.W.nsIn K mainGlobals "NoSuch" = some (some (.ref c3)))
    (z3 : KCls K aS 2 "NoSuch" "value" c3 oc3)
    (y3 : KIni K "NoSuch.__init__" i_3 c3 fi3 oi3 dv3 cv3)
    (w3 : dv3 = .ref aT3)
    (v3 : K.lookup aT3 = some oT3)
    (x3 : ∃ cl dd n sl, oT3 = ⟨cl, dd, .seq #[.none] n, sl⟩)
    (k0 : KDef K "is_atom" s_0 f0 of0 cw0)
    (k1 : KDef K "has_type_shape" s_1 f1 of1 cw1)
    (k2 : KDef K "wrong_type" s_2 f2 of2 cw2)
    (k3 : KDef K "is_type" s_3 f3 of3 cw3)
    (k4 : KDef K "need_type" s_4 f4 of4 cw4)
    (k5 : KDef K "wrong_inputs" s_5 f5 of5 cw5)
    (k6 : KDef K "need_inputs" s_6 f6 of6 cw6)
    (k7 : KDef K "own_size" s_7 f7 of7 cw7)
    (k8 : KDef K "size_of_type" s_8 f8 of8 cw8)
    (k9 : KDef K "own_atoms" s_9 f9 of9 cw9)
    (k10 : KDef K "atoms_of" s_10 f10 of10 cw10)
    (k11 : KDef K "type_key" s_11 f11 of11 cw11)
    (k12 : KDef K "is_type_before" s_12 f12 of12 cw12)
    (k13 : KDef K "_law_mixed" s_13 f13 of13 cw13)
    (k14 : KDef K "_law_draw" s_14 f14 of14 cw14)
    (k15 : KDef K "_law_digit" s_15 f15 of15 cw15)
    (k16 : KDef K "_law_type" s_16 f16 of16 cw16)
    (k17 : KDef K "_law_told" s_17 f17 of17 cw17)
    (k18 : KDef K "_law_shape" s_18 f18 of18 cw18)
    (k19 : KDef K "_law_wrong" s_19 f19 of19 cw19)
    (k20 : KDef K "_law_bent" s_20 f20 of20 cw20)
    (k21 : KDef K "_law_great" s_21 f21 of21 cw21)
    (k22 : KDef K "_law_key" s_22 f22 of22 cw22)
    (k23 : KDef K "law" s_23 f23 of23 (.ref cL))
    (n_LookupError : PySem.W.nsIn K mainGlobals "LookupError" = some none)
    (n_OverflowError : PySem.W.nsIn K mainGlobals "OverflowError" = some none)
    (n_ValueError : PySem.W.nsIn K mainGlobals "ValueError" = some none)
    (n_enumerate : PySem.W.nsIn K mainGlobals "enumerate" = some none)
    (n_isinstance : PySem.W.nsIn K mainGlobals "isinstance" = some none)
    (n_len : PySem.W.nsIn K mainGlobals "len" = some none)
    (n_list : PySem.W.nsIn K mainGlobals "list" = some none)
    (n_range : PySem.W.nsIn K mainGlobals "range" = some none)
    (n_repr : PySem.W.nsIn K mainGlobals "repr" = some none)
    (n_sorted : PySem.W.nsIn K mainGlobals "sorted" = some none)
    (n_str : PySem.W.nsIn K mainGlobals "str" = some none)
    (n_sum : PySem.W.nsIn K mainGlobals "sum" = some none)
    (n_tuple : PySem.W.nsIn K mainGlobals "tuple" = some none)
    (m0 : PySem.W.nsIn K mainGlobals "ATOMS" = some (some (.str "abcdef" tk0)))
    (m1 : PySem.W.nsIn K mainGlobals "KINDS" = some (some (.ref ak1)))
    (l1 : K.lookup ak1 = some ok1)
    (u1 : TupObj0 ok1 ["atom", "one", "both", "either", "to"])
    (m2 : PySem.W.nsIn K mainGlobals "MOST_SIZE" = some (some (.int 60 tk2)))
    (m3 : PySem.W.nsIn K mainGlobals "MOST_DEEP" = some (some (.int 12 tk3)))
    (m4 : PySem.W.nsIn K mainGlobals "MOST_INPUTS" = some (some (.int 6 tk4)))
    (g6 : PySem.W.specialIn K (.builtin "object.__class__") "__get__" = some (some (.builtin "getset_descriptor.__get__")))
    (g7 : PySem.W.takesIn K (.builtin "object.__class__") = some true)
    (h1 : K.lookup cL = some oL)
    (h2 : ∃ od vs sl, oL = ⟨.type "code", od, .fields vs, sl⟩ ∧ vs[11]? = some (.ref pL))
    (h3 : PySem.W.codeHdIn K cL pL = true)
    (h4 : K.lookup pL = none)
    (h5 : pL ∈ ts)
    : ∃ (C : Cn) (fd : FuncData) (cs : List (Addr × Addr)), C.K = K ∧ (∀ p ∈ C.T, ∃ c, (c, p.1) ∈ cs) ∧ (∀ p ∈ cs, h.get? p.2 = some { cls := .none, data := .fields #[] }) ∧ (∀ p ∈ cs, K.lookup p.2 = none) ∧ (∀ p ∈ cs, PySem.W.CodeHd h p.1 p.2) ∧ (∀ (s : Shared) (u : Value), BindsTo s fd ⟨[u], []⟩ [("script", u)]) ∧ ∀ base : Heap, K.In base → base.Ns mainGlobals mg → (∀ p ∈ cs, LamX.TabB base mg p.1 p.2) → FnT P w K mg base C 19 fl fd ["script"] (runB 13 1 (m_23 (Φ 18) (Φ 15))) := by
  have e0 := hfl.symm.trans (k23.mg X G)
  cases e0
  obtain ⟨d0, F0, kV0, dc0, pm0, an0, ct0, eF0⟩ := k0.fun_
  obtain ⟨d1, F1, kV1, dc1, pm1, an1, ct1, eF1⟩ := k1.fun_
  obtain ⟨d2, F2, kV2, dc2, pm2, an2, ct2, eF2⟩ := k2.fun_
  obtain ⟨d3, F3, kV3, dc3, pm3, an3, ct3, eF3⟩ := k3.fun_
  obtain ⟨d4, F4, kV4, dc4, pm4, an4, ct4, eF4⟩ := k4.fun_
  obtain ⟨d5, F5, kV5, dc5, pm5, an5, ct5, eF5⟩ := k5.fun_
  obtain ⟨d6, F6, kV6, dc6, pm6, an6, ct6, eF6⟩ := k6.fun_
  obtain ⟨d7, F7, kV7, dc7, pm7, an7, ct7, eF7⟩ := k7.fun_
  obtain ⟨d8, F8, kV8, dc8, pm8, an8, ct8, eF8⟩ := k8.fun_
  obtain ⟨d9, F9, kV9, dc9, pm9, an9, ct9, eF9⟩ := k9.fun_
  obtain ⟨d10, F10, kV10, dc10, pm10, an10, ct10, eF10⟩ := k10.fun_
  obtain ⟨d11, F11, kV11, dc11, pm11, an11, ct11, eF11⟩ := k11.fun_
  obtain ⟨d12, F12, kV12, dc12, pm12, an12, ct12, eF12⟩ := k12.fun_
  obtain ⟨d13, F13, kV13, dc13, pm13, an13, ct13, eF13⟩ := k13.fun_
  obtain ⟨d14, F14, kV14, dc14, pm14, an14, ct14, eF14⟩ := k14.fun_
  obtain ⟨d15, F15, kV15, dc15, pm15, an15, ct15, eF15⟩ := k15.fun_
  obtain ⟨d16, F16, kV16, dc16, pm16, an16, ct16, eF16⟩ := k16.fun_
  obtain ⟨d18, F18, kV18, dc18, pm18, an18, ct18, eF18⟩ := k18.fun_
  obtain ⟨d19, F19, kV19, dc19, pm19, an19, ct19, eF19⟩ := k19.fun_
  obtain ⟨d20, F20, kV20, dc20, pm20, an20, ct20, eF20⟩ := k20.fun_
  obtain ⟨d21, F21, kV21, dc21, pm21, an21, ct21, eF21⟩ := k21.fun_
  obtain ⟨d22, F22, kV22, dc22, pm22, an22, ct22, eF22⟩ := k22.fun_
  obtain ⟨ocl, odl, kVl, docl, pml, anl, ctl, osll, lkl⟩ := k23.law
  have oS3 : KObj K aS 3 "SameError" aS oS := ⟨lS, eS⟩
  refine ⟨cn K (fun i => ([c0, c1, c2, c3] : List Addr).getD i 0) pL, PySem.W.fnOf "law" "law" (defArgs s_23) (defBody s_23) (defScope s_23) .none kVl docl pml anl (.ref cL) ctl, [(cL, pL)], rfl, fun p hp => ⟨cL, by rw [List.mem_singleton.mp hp]; exact List.mem_singleton.mpr rfl⟩, fun p hp => by rw [List.mem_singleton.mp hp]; exact hT _ h5, fun p hp => by rw [List.mem_singleton.mp hp]; exact h4, fun p hp => by rw [List.mem_singleton.mp hp]; exact PySem.W.codeHd_of_K X h3, fun s u => ?_, fun base _ _ hTB => ?_⟩
  rotate_left
  have mS := PySem.W.mg_of X G gS
  have u_LookupError := PySem.W.mg_none_of X G n_LookupError
  have u_OverflowError := PySem.W.mg_none_of X G n_OverflowError
  have u_ValueError := PySem.W.mg_none_of X G n_ValueError
  have u_enumerate := PySem.W.mg_none_of X G n_enumerate
  have u_isinstance := PySem.W.mg_none_of X G n_isinstance
  have u_len := PySem.W.mg_none_of X G n_len
  have u_list := PySem.W.mg_none_of X G n_list
  have u_range := PySem.W.mg_none_of X G n_range
  have u_repr := PySem.W.mg_none_of X G n_repr
  have u_sorted := PySem.W.mg_none_of X G n_sorted
  have u_str := PySem.W.mg_none_of X G n_str
  have u_sum := PySem.W.mg_none_of X G n_sum
  have u_tuple := PySem.W.mg_none_of X G n_tuple
  have B0 : ∀ (Y : Cx) (p1 : Pos), Y.K = K → Y.mg = mg → Gl Y "SameError" → BaseAt Y "SameError" p1 (iniOf 0) := fun Y p1 h1 h2 hg => baseAt_own hg (by rw [h2]; exact mS) ⟨by rw [h1]; exact rS, by rw [h1]; exact sS⟩ (by rw [h1]; exact fS)
  have B1 : ∀ (Y : Cx) (p1 : Pos), Y.K = K → Y.mg = mg → Gl Y "OverflowError" → BaseAt Y "OverflowError" p1 (iniOf 1) := fun Y p1 h1 h2 hg => baseAt_blt (T := "OverflowError") hg (by rw [h2]; exact u_OverflowError) rfl ty_1 (by decide +kernel) (by rw [h1]; exact fB1)
  have B2 : ∀ (Y : Cx) (p1 : Pos), Y.K = K → Y.mg = mg → Gl Y "LookupError" → BaseAt Y "LookupError" p1 (iniOf 2) := fun Y p1 h1 h2 hg => baseAt_blt (T := "LookupError") hg (by rw [h2]; exact u_LookupError) rfl ty_2 (by decide +kernel) (by rw [h1]; exact fB2)
  obtain ⟨e0, Z0, E0, R0⟩ := clsB_of (P := P) (w := w) (mg := mg) (base := base) (bn := "SameError") (m := "no such type") z0 (by decide) y0 (b := true) ⟨aT0, oT0, w0, v0, x0⟩ si_0 (by decide) (by decide) ⟨_, _, _, _, _, _, _, _, _, _, _, rfl, fun _ _ => rfl, fun _ _ => ⟨_, rfl⟩, fun _ _ => rfl, fun _ _ => rfl⟩ B0
  have A0 := cAll_d Z0 E0 (fun _ _ _ _ _ _ _ us its h1 h2 => match us, its, h1, h2 with | [_, _], [_], _, _ => ⟨_, rfl, rfl⟩) (fun _ _ _ _ _ _ _ us its h1 h2 => match us, its, h1, h2 with | [_], [_], _, _ => ⟨_, rfl, rfl⟩) (fun _ _ _ _ _ _ _ us its ws h1 h2 h3 => match us, its, ws, h1, h2, h3 with | [_], [_], [_], _, _, _ => ⟨_, rfl, rfl⟩)
  obtain ⟨e1, Z1, E1, R1⟩ := clsB_of (P := P) (w := w) (mg := mg) (base := base) (bn := "SameError") (m := "no such inputs") z1 (by decide) y1 (b := true) ⟨aT1, oT1, w1, v1, x1⟩ si_1 (by decide) (by decide) ⟨_, _, _, _, _, _, _, _, _, _, _, rfl, fun _ _ => rfl, fun _ _ => ⟨_, rfl⟩, fun _ _ => rfl, fun _ _ => rfl⟩ B0
  have A1 := cAll_d Z1 E1 (fun _ _ _ _ _ _ _ us its h1 h2 => match us, its, h1, h2 with | [_, _], [_], _, _ => ⟨_, rfl, rfl⟩) (fun _ _ _ _ _ _ _ us its h1 h2 => match us, its, h1, h2 with | [_], [_], _, _ => ⟨_, rfl, rfl⟩) (fun _ _ _ _ _ _ _ us its ws h1 h2 h3 => match us, its, ws, h1, h2, h3 with | [_], [_], [_], _, _, _ => ⟨_, rfl, rfl⟩)
  obtain ⟨e2, Z2, E2, R2⟩ := clsB_of (P := P) (w := w) (mg := mg) (base := base) (bn := "OverflowError") (m := "too many") z2 (by decide) y2 (b := false) w2 si_2 (by decide) (by decide) ⟨_, _, _, _, _, _, _, _, _, _, _, rfl, fun _ _ => rfl, fun _ _ => ⟨_, rfl⟩, fun _ _ => rfl, fun _ _ => rfl⟩ B1
  have A2 := cAll_n Z2 E2 (fun _ _ _ _ _ _ us hl => match us, hl with | [_, _], _ => rfl) (fun _ _ _ _ _ _ _ _ => rfl)
  obtain ⟨e3, Z3, E3, R3⟩ := clsB_of (P := P) (w := w) (mg := mg) (base := base) (bn := "LookupError") (m := "nothing so called") z3 (by decide) y3 (b := true) ⟨aT3, oT3, w3, v3, x3⟩ si_3 (by decide) (by decide) ⟨_, _, _, _, _, _, _, _, _, _, _, rfl, fun _ _ => rfl, fun _ _ => ⟨_, rfl⟩, fun _ _ => rfl, fun _ _ => rfl⟩ B2
  have A3 := cAll_d Z3 E3 (fun _ _ _ _ _ _ _ us its h1 h2 => match us, its, h1, h2 with | [_, _], [_], _, _ => ⟨_, rfl, rfl⟩) (fun _ _ _ _ _ _ _ us its h1 h2 => match us, its, h1, h2 with | [_], [_], _, _ => ⟨_, rfl, rfl⟩) (fun _ _ _ _ _ _ _ us its ws h1 h2 h3 => match us, its, ws, h1, h2, h3 with | [_], [_], [_], _, _, _ => ⟨_, rfl, rfl⟩)
  have b0 := F0.binds (ps := ["thing"]) fun _ _ _ _ _ _ us hl => match us, hl with | [_], _ => rfl
  have b1 := F1.binds (ps := ["thing"]) fun _ _ _ _ _ _ us hl => match us, hl with | [_], _ => rfl
  have b2 := F2.binds (ps := ["thing"]) fun _ _ _ _ _ _ us hl => match us, hl with | [_], _ => rfl
  have b3 := F3.binds (ps := ["thing"]) fun _ _ _ _ _ _ us hl => match us, hl with | [_], _ => rfl
  have b4 := F4.binds (ps := ["kind"]) fun _ _ _ _ _ _ us hl => match us, hl with | [_], _ => rfl
  have b5 := F5.binds (ps := ["thing"]) fun _ _ _ _ _ _ us hl => match us, hl with | [_], _ => rfl
  have b6 := F6.binds (ps := ["inputs"]) fun _ _ _ _ _ _ us hl => match us, hl with | [_], _ => rfl
  have b7 := F7.binds (ps := ["kind"]) fun _ _ _ _ _ _ us hl => match us, hl with | [_], _ => rfl
  have b8 := F8.binds (ps := ["kind"]) fun _ _ _ _ _ _ us hl => match us, hl with | [_], _ => rfl
  have b9 := F9.binds (ps := ["kind"]) fun _ _ _ _ _ _ us hl => match us, hl with | [_], _ => rfl
  have b10 := F10.binds (ps := ["kind"]) fun _ _ _ _ _ _ us hl => match us, hl with | [_], _ => rfl
  have b11 := F11.binds (ps := ["kind"]) fun _ _ _ _ _ _ us hl => match us, hl with | [_], _ => rfl
  have b12 := F12.binds (ps := ["one", "other"]) fun _ _ _ _ _ _ us hl => match us, hl with | [_, _], _ => rfl
  have b13 := F13.binds (ps := ["cell", "k"]) fun _ _ _ _ _ _ us hl => match us, hl with | [_, _], _ => rfl
  have b14 := F14.binds (ps := ["cell", "k"]) fun _ _ _ _ _ _ us hl => match us, hl with | [_, _], _ => rfl
  have b15 := F15.binds (ps := ["state", "below"]) fun _ _ _ _ _ _ us hl => match us, hl with | [_, _], _ => rfl
  have b16 := F16.binds (ps := ["state", "deep"]) fun _ _ _ _ _ _ us hl => match us, hl with | [_, _], _ => rfl
  have b18 := F18.binds (ps := ["thing"]) fun _ _ _ _ _ _ us hl => match us, hl with | [_], _ => rfl
  have b19 := F19.binds (ps := ["thing"]) fun _ _ _ _ _ _ us hl => match us, hl with | [_], _ => rfl
  have b20 := F20.binds (ps := ["state", "kind"]) fun _ _ _ _ _ _ us hl => match us, hl with | [_, _], _ => rfl
  have b21 := F21.binds (ps := ["state"]) fun _ _ _ _ _ _ us hl => match us, hl with | [_], _ => rfl
  have b22 := F22.binds (ps := ["kind"]) fun _ _ _ _ _ _ us hl => match us, hl with | [_], _ => rfl
  have ho17 := k17.ho (p := "deed") fun _ _ _ _ _ _ _ => rfl
  have T : Txt P w K mg base (fun i => ([f0, f1, f2, f3, f4, f5, f6, f7, f8, f9, f10, f11, f12, f13, f14, f15, f16, f17, f18, f19, f20, f21, f22, fl] : List _).getD i f0) (fun i => ([d0, d1, d2, d3, d4, d5, d6, d7, d8, d9, d10, d11, d12, d13, d14, d15, d16, d0, d18, d19, d20, d21, d22, d0] : List _).getD i d0) (fun i => ([c0, c1, c2, c3] : List Addr).getD i 0) (fun i => ([fi0, fi1, fi2, fi3] : List _).getD i fi0) (fun i => ([e0, e1, e2, e3] : List _).getD i e0) (fun i => ([0, ak1, 0, 0, 0] : List _).getD i 0) (fun i => ([tk0, 0, tk2, tk3, tk4] : List _).getD i tk0) aS pL cL := {
    g_0 := k0.mg X G, kp_0 := k0.kp, b_0 := b0,
    g_1 := k1.mg X G, kp_1 := k1.kp, b_1 := b1,
    g_2 := k2.mg X G, kp_2 := k2.kp, b_2 := b2,
    g_3 := k3.mg X G, kp_3 := k3.kp, b_3 := b3,
    g_4 := k4.mg X G, kp_4 := k4.kp, b_4 := b4,
    g_5 := k5.mg X G, kp_5 := k5.kp, b_5 := b5,
    g_6 := k6.mg X G, kp_6 := k6.kp, b_6 := b6,
    g_7 := k7.mg X G, kp_7 := k7.kp, b_7 := b7,
    g_8 := k8.mg X G, kp_8 := k8.kp, b_8 := b8,
    g_9 := k9.mg X G, kp_9 := k9.kp, b_9 := b9,
    g_10 := k10.mg X G, kp_10 := k10.kp, b_10 := b10,
    g_11 := k11.mg X G, kp_11 := k11.kp, b_11 := b11,
    g_12 := k12.mg X G, kp_12 := k12.kp, b_12 := b12,
    g_13 := k13.mg X G, kp_13 := k13.kp, b_13 := b13,
    g_14 := k14.mg X G, kp_14 := k14.kp, b_14 := b14,
    g_15 := k15.mg X G, kp_15 := k15.kp, b_15 := b15,
    g_16 := k16.mg X G, kp_16 := k16.kp, b_16 := b16,
    g_17 := k17.mg X G, kp_17 := k17.kp, ho_17 := ho17,
    g_18 := k18.mg X G, kp_18 := k18.kp, b_18 := b18,
    g_19 := k19.mg X G, kp_19 := k19.kp, b_19 := b19,
    g_20 := k20.mg X G, kp_20 := k20.kp, b_20 := b20,
    g_21 := k21.mg X G, kp_21 := k21.kp, b_21 := b21,
    g_22 := k22.mg X G, kp_22 := k22.kp, b_22 := b22,
    n_LookupError := u_LookupError,
    n_OverflowError := u_OverflowError,
    n_ValueError := u_ValueError,
    n_enumerate := u_enumerate,
    n_isinstance := u_isinstance,
    n_len := u_len,
    n_list := u_list,
    n_range := u_range,
    n_repr := u_repr,
    n_sorted := u_sorted,
    n_str := u_str,
    n_sum := u_sum,
    n_tuple := u_tuple,
    gS := mS,
    gc_0 := PySem.W.mg_of X G a0, c_0 := A0, r_0 := R0,
    gc_1 := PySem.W.mg_of X G a1, c_1 := A1, r_1 := R1,
    gc_2 := PySem.W.mg_of X G a2, c_2 := A2, r_2 := R2,
    gc_3 := PySem.W.mg_of X G a3, c_3 := A3, r_3 := R3,
    q_BadInputs := fun i b h => match i, h with
      | 0, h => ⟨z0.ek g6 g7, by obtain rfl : false = b := Option.some.inj (show some false = some b from h); exact kit_oth z0 z1 oS3 (by decide) (by decide)⟩
      | 1, h => ⟨z1.ek g6 g7, by obtain rfl : true = b := Option.some.inj (show some true = some b from h); exact kit_own z1⟩
      | 2, h => ⟨z2.ek g6 g7, by obtain rfl : false = b := Option.some.inj (show some false = some b from h); exact kit_oth z2 z1 oS3 (by decide) (by decide)⟩
      | 3, h => ⟨z3.ek g6 g7, by obtain rfl : false = b := Option.some.inj (show some false = some b from h); exact kit_oth z3 z1 oS3 (by decide) (by decide)⟩
      | n + 4, h => absurd h (by unfold q_BadInputs; rw [if_neg (by omega)]; simp),
    q_BadType := fun i b h => match i, h with
      | 0, h => ⟨z0.ek g6 g7, by obtain rfl : true = b := Option.some.inj (show some true = some b from h); exact kit_own z0⟩
      | 1, h => ⟨z1.ek g6 g7, by obtain rfl : false = b := Option.some.inj (show some false = some b from h); exact kit_oth z1 z0 oS3 (by decide) (by decide)⟩
      | 2, h => ⟨z2.ek g6 g7, by obtain rfl : false = b := Option.some.inj (show some false = some b from h); exact kit_oth z2 z0 oS3 (by decide) (by decide)⟩
      | 3, h => ⟨z3.ek g6 g7, by obtain rfl : false = b := Option.some.inj (show some false = some b from h); exact kit_oth z3 z0 oS3 (by decide) (by decide)⟩
      | n + 4, h => absurd h (by unfold q_BadType; rw [if_neg (by omega)]; simp),
    q_NoSuch := fun i b h => match i, h with
      | 0, h => ⟨z0.ek g6 g7, by obtain rfl : false = b := Option.some.inj (show some false = some b from h); exact kit_oth z0 z3 oS3 (by decide) (by decide)⟩
      | 1, h => ⟨z1.ek g6 g7, by obtain rfl : false = b := Option.some.inj (show some false = some b from h); exact kit_oth z1 z3 oS3 (by decide) (by decide)⟩
      | 2, h => ⟨z2.ek g6 g7, by obtain rfl : false = b := Option.some.inj (show some false = some b from h); exact kit_oth z2 z3 oS3 (by decide) (by decide)⟩
      | 3, h => ⟨z3.ek g6 g7, by obtain rfl : true = b := Option.some.inj (show some true = some b from h); exact kit_own z3⟩
      | n + 4, h => absurd h (by unfold q_NoSuch; rw [if_neg (by omega)]; simp),
    q_TooMany := fun i b h => match i, h with
      | 0, h => ⟨z0.ek g6 g7, by obtain rfl : false = b := Option.some.inj (show some false = some b from h); exact kit_oth z0 z2 oS3 (by decide) (by decide)⟩
      | 1, h => ⟨z1.ek g6 g7, by obtain rfl : false = b := Option.some.inj (show some false = some b from h); exact kit_oth z1 z2 oS3 (by decide) (by decide)⟩
      | 2, h => ⟨z2.ek g6 g7, by obtain rfl : true = b := Option.some.inj (show some true = some b from h); exact kit_own z2⟩
      | 3, h => ⟨z3.ek g6 g7, by obtain rfl : false = b := Option.some.inj (show some false = some b from h); exact kit_oth z3 z2 oS3 (by decide) (by decide)⟩
      | n + 4, h => absurd h (by unfold q_TooMany; rw [if_neg (by omega)]; simp),
    q_ValueError := fun i b h => match i, h with
      | 0, h => ⟨z0.ek g6 g7, by obtain rfl : true = b := Option.some.inj (show some true = some b from h); exact (kit_type z0.toKObj (by decide +kernel)).trans (by decide +kernel)⟩
      | 1, h => ⟨z1.ek g6 g7, by obtain rfl : true = b := Option.some.inj (show some true = some b from h); exact (kit_type z1.toKObj (by decide +kernel)).trans (by decide +kernel)⟩
      | 2, h => ⟨z2.ek g6 g7, by obtain rfl : false = b := Option.some.inj (show some false = some b from h); exact (kit_type z2.toKObj (by decide +kernel)).trans (by decide +kernel)⟩
      | 3, h => ⟨z3.ek g6 g7, by obtain rfl : false = b := Option.some.inj (show some false = some b from h); exact (kit_type z3.toKObj (by decide +kernel)).trans (by decide +kernel)⟩
      | n + 4, h => by simp [q_ValueError] at h,
    x_SameError_NoSuch_TooMany := fun i b h => match i, h with
      | 0, h => by obtain rfl : true = b := Option.some.inj (show some true = some b from h); exact exm_any3 (exm_base z0 oS3 tS (by decide)) (exm_oth z0 z3 oS3 (by decide) (by decide)) (exm_oth z0 z2 oS3 (by decide) (by decide)) (by decide)
      | 1, h => by obtain rfl : true = b := Option.some.inj (show some true = some b from h); exact exm_any3 (exm_base z1 oS3 tS (by decide)) (exm_oth z1 z3 oS3 (by decide) (by decide)) (exm_oth z1 z2 oS3 (by decide) (by decide)) (by decide)
      | 2, h => by obtain rfl : true = b := Option.some.inj (show some true = some b from h); exact exm_any3 (exm_base z2 oS3 tS (by decide)) (exm_oth z2 z3 oS3 (by decide) (by decide)) (exm_own z2) (by decide)
      | 3, h => by obtain rfl : true = b := Option.some.inj (show some true = some b from h); exact exm_any3 (exm_base z3 oS3 tS (by decide)) (exm_own z3) (exm_oth z3 z2 oS3 (by decide) (by decide)) (by decide)
      | n + 4, h => by simp [x_SameError_NoSuch_TooMany] at h,
    fq_most := fun c h => match c, h with
      | 0, h => absurd (show false = true from h) (by decide)
      | 1, h => absurd (show false = true from h) (by decide)
      | 2, _ => ⟨rfl, z2.xf, z2.nf⟩
      | 3, h => absurd (show false = true from h) (by decide)
      | n + 4, h => by simp [fs_most] at h,
    fq_place := fun c h => match c, h with
      | 0, _ => ⟨rfl, z0.xf, z0.nf⟩
      | 1, _ => ⟨rfl, z1.xf, z1.nf⟩
      | 2, h => absurd (show false = true from h) (by decide)
      | 3, h => absurd (show false = true from h) (by decide)
      | n + 4, h => by simp [fs_place] at h,
    fq_value := fun c h => match c, h with
      | 0, h => absurd (show false = true from h) (by decide)
      | 1, h => absurd (show false = true from h) (by decide)
      | 2, h => absurd (show false = true from h) (by decide)
      | 3, _ => ⟨rfl, z3.xf, z3.nf⟩
      | n + 4, h => by simp [fs_value] at h,
    k_ATOMS := PySem.W.mg_of X G m0,
    k_KINDS := PySem.W.mg_of X G m1,
    kr_KINDS := fun {C} hC H => tup_rp (zs := ["atom", "one", "both", "either", "to"]) (hC.symm ▸ l1) u1.to,
    kt_KINDS := tup_o l1 u1,
    k_MOST_SIZE := PySem.W.mg_of X G m2,
    k_MOST_DEEP := PySem.W.mg_of X G m3,
    k_MOST_INPUTS := PySem.W.mg_of X G m4,
    TB := hTB (cL, pL) (List.mem_singleton.mpr rfl) }
  · exact fnT_of lkl k23.co sc_23 fun A outer s H E hr => d_23 T (all_fn T F0 F1 F2 F3 F4 F5 F6 F7 F8 F9 F10 F11 F12 F13 F14 F15 F16 F18 F19 F20 F21 F22 18) (all_fn T F0 F1 F2 F3 F4 F5 F6 F7 F8 F9 F10 F11 F12 F13 F14 F15 F16 F18 F19 F20 F21 F22 15) hr (by decide)
  · exact .of_eq rfl
end LW

open PySem PySem.W PyProof.Rows
set_option maxRecDepth 100000 in
set_option maxHeartbeats 0 in
theorem PySem.Challenge.cw_sameinworlds_k00_types_looked_at_holds : PySem.Challenge.rw_sameinworlds_k00_types_looked_at.Holds := by
  w_on; o_law; k_head; (case hw => w_witness2)
  k_fill
  refine TL.walk_T2 (l := PySem.Challenge.rw_sameinworlds_k00_types_looked_at) (n := 63) (k := 19) (x := "script") (F := TL.runB 13 1 (LW.m_23 (LW.Φ 18) (LW.Φ 15))) rfl (by decide) rfl (TL.caller_room (by decide) (by decide)) (fun w h Y => PySem.W.km_in_of Y) ?F LW.law_true
  case F =>
    intro w mg fa h Y KX G hmg
    refine' LW.all_mk (PySem.W.km_tabs_of Y) KX G hmg ?gS ?lS ?eS ?tS ?rS ?sS ?fS ?fB1 ?fB2 ?a0 ?z0 ?y0 ?w0 ?v0 ?x0 ?a1 ?z1 ?y1 ?w1 ?v1 ?x1 ?a2 ?z2 ?y2 ?w2 ?a3 ?z3 ?y3 ?w3 ?v3 ?x3 ?k0 ?k1 ?k2 ?k3 ?k4 ?k5 ?k6 ?k7 ?k8 ?k9 ?k10 ?k11 ?k12 ?k13 ?k14 ?k15 ?k16 ?k17 ?k18 ?k19 ?k20 ?k21 ?k22 ?k23 ?n_LookupError ?n_OverflowError ?n_ValueError ?n_enumerate ?n_isinstance ?n_len ?n_list ?n_range ?n_repr ?n_sorted ?n_str ?n_sum ?n_tuple ?m0 ?m1 ?l1 ?u1 ?m2 ?m3 ?m4 ?g6 ?g7 ?h1 ?h2 ?h3 ?h4 ?h5
    (case gS => k_is)
    (case lS => k_is)
    (case eS => exact ⟨_, _, _, _, _, _, _, _, _, _, _, _, _, rfl⟩)
    (case tS => k_is)
    (case rS => k_is)
    (case sS => k_is)
    (case fS => k_is)
    (case fB1 => k_is)
    (case fB2 => k_is)
    (case a0 => k_is)
    (case z0 => refine' ⟨⟨?z0_lo, ?z0_ex⟩, ?z0_sa, ?z0_ga, ?z0_gg, ?z0_gc, ?z0_gs, ?z0_nf, ?z0_tC, ?z0_kC⟩; (case z0_lo => k_is); (case z0_ex => exact ⟨_, _, _, _, _, _, _, _, _, _, _, _, _, rfl⟩); (case z0_sa => k_is); (case z0_ga => k_is); (case z0_gg => k_is); (case z0_gc => k_is); (case z0_gs => k_is); (case z0_nf => k_is); (case z0_tC => k_is); (case z0_kC => k_is))
    (case y0 => refine' ⟨?y0_a1, ?y0_t1, ?y0_l1, ?y0_e1, ?y0_c1, ?y0_k1⟩; (case y0_a1 => k_is); (case y0_t1 => k_is); (case y0_l1 => k_is); (case y0_e1 => exact ⟨_, _, _, _, _, _, _, _, rfl⟩); (case y0_c1 => k_is); (case y0_k1 => k_is))
    (case w0 => exact rfl)
    (case v0 => k_is)
    (case x0 => exact ⟨_, _, _, _, rfl⟩)
    (case a1 => k_is)
    (case z1 => refine' ⟨⟨?z1_lo, ?z1_ex⟩, ?z1_sa, ?z1_ga, ?z1_gg, ?z1_gc, ?z1_gs, ?z1_nf, ?z1_tC, ?z1_kC⟩; (case z1_lo => k_is); (case z1_ex => exact ⟨_, _, _, _, _, _, _, _, _, _, _, _, _, rfl⟩); (case z1_sa => k_is); (case z1_ga => k_is); (case z1_gg => k_is); (case z1_gc => k_is); (case z1_gs => k_is); (case z1_nf => k_is); (case z1_tC => k_is); (case z1_kC => k_is))
    (case y1 => refine' ⟨?y1_a1, ?y1_t1, ?y1_l1, ?y1_e1, ?y1_c1, ?y1_k1⟩; (case y1_a1 => k_is); (case y1_t1 => k_is); (case y1_l1 => k_is); (case y1_e1 => exact ⟨_, _, _, _, _, _, _, _, rfl⟩); (case y1_c1 => k_is); (case y1_k1 => k_is))
    (case w1 => exact rfl)
    (case v1 => k_is)
    (case x1 => exact ⟨_, _, _, _, rfl⟩)
    (case a2 => k_is)
    (case z2 => refine' ⟨⟨?z2_lo, ?z2_ex⟩, ?z2_sa, ?z2_ga, ?z2_gg, ?z2_gc, ?z2_gs, ?z2_nf, ?z2_tC, ?z2_kC⟩; (case z2_lo => k_is); (case z2_ex => exact ⟨_, _, _, _, _, _, _, _, _, _, _, _, _, rfl⟩); (case z2_sa => k_is); (case z2_ga => k_is); (case z2_gg => k_is); (case z2_gc => k_is); (case z2_gs => k_is); (case z2_nf => k_is); (case z2_tC => k_is); (case z2_kC => k_is))
    (case y2 => refine' ⟨?y2_a1, ?y2_t1, ?y2_l1, ?y2_e1, ?y2_c1, ?y2_k1⟩; (case y2_a1 => k_is); (case y2_t1 => k_is); (case y2_l1 => k_is); (case y2_e1 => exact ⟨_, _, _, _, _, _, _, _, rfl⟩); (case y2_c1 => k_is); (case y2_k1 => k_is))
    (case w2 => exact rfl)
    (case a3 => k_is)
    (case z3 => refine' ⟨⟨?z3_lo, ?z3_ex⟩, ?z3_sa, ?z3_ga, ?z3_gg, ?z3_gc, ?z3_gs, ?z3_nf, ?z3_tC, ?z3_kC⟩; (case z3_lo => k_is); (case z3_ex => exact ⟨_, _, _, _, _, _, _, _, _, _, _, _, _, rfl⟩); (case z3_sa => k_is); (case z3_ga => k_is); (case z3_gg => k_is); (case z3_gc => k_is); (case z3_gs => k_is); (case z3_nf => k_is); (case z3_tC => k_is); (case z3_kC => k_is))
    (case y3 => refine' ⟨?y3_a1, ?y3_t1, ?y3_l1, ?y3_e1, ?y3_c1, ?y3_k1⟩; (case y3_a1 => k_is); (case y3_t1 => k_is); (case y3_l1 => k_is); (case y3_e1 => exact ⟨_, _, _, _, _, _, _, _, rfl⟩); (case y3_c1 => k_is); (case y3_k1 => k_is))
    (case w3 => exact rfl)
    (case v3 => k_is)
    (case x3 => exact ⟨_, _, _, _, rfl⟩)
    (case k0 => refine' ⟨?k0_aF, ?k0_lo, ?k0_ex, ?k0_co, ?k0_kp⟩; (case k0_aF => k_is); (case k0_lo => k_is); (case k0_ex => exact ⟨_, _, _, _, _, _, _, _, rfl⟩); (case k0_co => k_is); (case k0_kp => k_is))
    (case k1 => refine' ⟨?k1_aF, ?k1_lo, ?k1_ex, ?k1_co, ?k1_kp⟩; (case k1_aF => k_is); (case k1_lo => k_is); (case k1_ex => exact ⟨_, _, _, _, _, _, _, _, rfl⟩); (case k1_co => k_is); (case k1_kp => k_is))
    (case k2 => refine' ⟨?k2_aF, ?k2_lo, ?k2_ex, ?k2_co, ?k2_kp⟩; (case k2_aF => k_is); (case k2_lo => k_is); (case k2_ex => exact ⟨_, _, _, _, _, _, _, _, rfl⟩); (case k2_co => k_is); (case k2_kp => k_is))
    (case k3 => refine' ⟨?k3_aF, ?k3_lo, ?k3_ex, ?k3_co, ?k3_kp⟩; (case k3_aF => k_is); (case k3_lo => k_is); (case k3_ex => exact ⟨_, _, _, _, _, _, _, _, rfl⟩); (case k3_co => k_is); (case k3_kp => k_is))
    (case k4 => refine' ⟨?k4_aF, ?k4_lo, ?k4_ex, ?k4_co, ?k4_kp⟩; (case k4_aF => k_is); (case k4_lo => k_is); (case k4_ex => exact ⟨_, _, _, _, _, _, _, _, rfl⟩); (case k4_co => k_is); (case k4_kp => k_is))
    (case k5 => refine' ⟨?k5_aF, ?k5_lo, ?k5_ex, ?k5_co, ?k5_kp⟩; (case k5_aF => k_is); (case k5_lo => k_is); (case k5_ex => exact ⟨_, _, _, _, _, _, _, _, rfl⟩); (case k5_co => k_is); (case k5_kp => k_is))
    (case k6 => refine' ⟨?k6_aF, ?k6_lo, ?k6_ex, ?k6_co, ?k6_kp⟩; (case k6_aF => k_is); (case k6_lo => k_is); (case k6_ex => exact ⟨_, _, _, _, _, _, _, _, rfl⟩); (case k6_co => k_is); (case k6_kp => k_is))
    (case k7 => refine' ⟨?k7_aF, ?k7_lo, ?k7_ex, ?k7_co, ?k7_kp⟩; (case k7_aF => k_is); (case k7_lo => k_is); (case k7_ex => exact ⟨_, _, _, _, _, _, _, _, rfl⟩); (case k7_co => k_is); (case k7_kp => k_is))
    (case k8 => refine' ⟨?k8_aF, ?k8_lo, ?k8_ex, ?k8_co, ?k8_kp⟩; (case k8_aF => k_is); (case k8_lo => k_is); (case k8_ex => exact ⟨_, _, _, _, _, _, _, _, rfl⟩); (case k8_co => k_is); (case k8_kp => k_is))
    (case k9 => refine' ⟨?k9_aF, ?k9_lo, ?k9_ex, ?k9_co, ?k9_kp⟩; (case k9_aF => k_is); (case k9_lo => k_is); (case k9_ex => exact ⟨_, _, _, _, _, _, _, _, rfl⟩); (case k9_co => k_is); (case k9_kp => k_is))
    (case k10 => refine' ⟨?k10_aF, ?k10_lo, ?k10_ex, ?k10_co, ?k10_kp⟩; (case k10_aF => k_is); (case k10_lo => k_is); (case k10_ex => exact ⟨_, _, _, _, _, _, _, _, rfl⟩); (case k10_co => k_is); (case k10_kp => k_is))
    (case k11 => refine' ⟨?k11_aF, ?k11_lo, ?k11_ex, ?k11_co, ?k11_kp⟩; (case k11_aF => k_is); (case k11_lo => k_is); (case k11_ex => exact ⟨_, _, _, _, _, _, _, _, rfl⟩); (case k11_co => k_is); (case k11_kp => k_is))
    (case k12 => refine' ⟨?k12_aF, ?k12_lo, ?k12_ex, ?k12_co, ?k12_kp⟩; (case k12_aF => k_is); (case k12_lo => k_is); (case k12_ex => exact ⟨_, _, _, _, _, _, _, _, rfl⟩); (case k12_co => k_is); (case k12_kp => k_is))
    (case k13 => refine' ⟨?k13_aF, ?k13_lo, ?k13_ex, ?k13_co, ?k13_kp⟩; (case k13_aF => k_is); (case k13_lo => k_is); (case k13_ex => exact ⟨_, _, _, _, _, _, _, _, rfl⟩); (case k13_co => k_is); (case k13_kp => k_is))
    (case k14 => refine' ⟨?k14_aF, ?k14_lo, ?k14_ex, ?k14_co, ?k14_kp⟩; (case k14_aF => k_is); (case k14_lo => k_is); (case k14_ex => exact ⟨_, _, _, _, _, _, _, _, rfl⟩); (case k14_co => k_is); (case k14_kp => k_is))
    (case k15 => refine' ⟨?k15_aF, ?k15_lo, ?k15_ex, ?k15_co, ?k15_kp⟩; (case k15_aF => k_is); (case k15_lo => k_is); (case k15_ex => exact ⟨_, _, _, _, _, _, _, _, rfl⟩); (case k15_co => k_is); (case k15_kp => k_is))
    (case k16 => refine' ⟨?k16_aF, ?k16_lo, ?k16_ex, ?k16_co, ?k16_kp⟩; (case k16_aF => k_is); (case k16_lo => k_is); (case k16_ex => exact ⟨_, _, _, _, _, _, _, _, rfl⟩); (case k16_co => k_is); (case k16_kp => k_is))
    (case k17 => refine' ⟨?k17_aF, ?k17_lo, ?k17_ex, ?k17_co, ?k17_kp⟩; (case k17_aF => k_is); (case k17_lo => k_is); (case k17_ex => exact ⟨_, _, _, _, _, _, _, _, rfl⟩); (case k17_co => k_is); (case k17_kp => k_is))
    (case k18 => refine' ⟨?k18_aF, ?k18_lo, ?k18_ex, ?k18_co, ?k18_kp⟩; (case k18_aF => k_is); (case k18_lo => k_is); (case k18_ex => exact ⟨_, _, _, _, _, _, _, _, rfl⟩); (case k18_co => k_is); (case k18_kp => k_is))
    (case k19 => refine' ⟨?k19_aF, ?k19_lo, ?k19_ex, ?k19_co, ?k19_kp⟩; (case k19_aF => k_is); (case k19_lo => k_is); (case k19_ex => exact ⟨_, _, _, _, _, _, _, _, rfl⟩); (case k19_co => k_is); (case k19_kp => k_is))
    (case k20 => refine' ⟨?k20_aF, ?k20_lo, ?k20_ex, ?k20_co, ?k20_kp⟩; (case k20_aF => k_is); (case k20_lo => k_is); (case k20_ex => exact ⟨_, _, _, _, _, _, _, _, rfl⟩); (case k20_co => k_is); (case k20_kp => k_is))
    (case k21 => refine' ⟨?k21_aF, ?k21_lo, ?k21_ex, ?k21_co, ?k21_kp⟩; (case k21_aF => k_is); (case k21_lo => k_is); (case k21_ex => exact ⟨_, _, _, _, _, _, _, _, rfl⟩); (case k21_co => k_is); (case k21_kp => k_is))
    (case k22 => refine' ⟨?k22_aF, ?k22_lo, ?k22_ex, ?k22_co, ?k22_kp⟩; (case k22_aF => k_is); (case k22_lo => k_is); (case k22_ex => exact ⟨_, _, _, _, _, _, _, _, rfl⟩); (case k22_co => k_is); (case k22_kp => k_is))
    (case k23 => refine' ⟨?k23_aF, ?k23_lo, ?k23_ex, ?k23_co, ?k23_kp⟩; (case k23_aF => k_is); (case k23_lo => k_is); (case k23_ex => exact ⟨_, _, _, _, _, _, _, _, rfl⟩); (case k23_co => k_is); (case k23_kp => k_is))
    (case n_LookupError => k_is)
    (case n_OverflowError => k_is)
    (case n_ValueError => k_is)
    (case n_enumerate => k_is)
    (case n_isinstance => k_is)
    (case n_len => k_is)
    (case n_list => k_is)
    (case n_range => k_is)
    (case n_repr => k_is)
    (case n_sorted => k_is)
    (case n_str => k_is)
    (case n_sum => k_is)
    (case n_tuple => k_is)
    (case m0 => k_is)
    (case m1 => k_is)
    (case l1 => k_is)
    (case u1 => exact ⟨_, _, _, rfl, by decide, ⟨_, rfl⟩, ⟨_, rfl⟩, ⟨_, rfl⟩, ⟨_, rfl⟩, ⟨_, rfl⟩, True.intro⟩)
    (case m2 => k_is)
    (case m3 => k_is)
    (case m4 => k_is)
    (case g6 => k_is)
    (case g7 => k_is)
    (case h1 => k_is)
    (case h2 => exact ⟨_, _, _, rfl, rfl⟩)
    (case h3 => kernel_rfl)
    (case h4 => first | kernel_rfl | rfl)
    (case h5 => k_mem)
    all_goals exact (0 : PySem.Addr)
