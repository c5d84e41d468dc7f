import PyProof.Rows.All
import Wide.All
import OpenK.AllK
import Wide.FinOn
import HandS.ForMost
import HandS.ForExc
import HandS.IsInst
import HandS.Walk
import HandS.Zip
import HandS.Wide
import HandS.TupAny
import HandS.Style
import HandS.TupLe
import KE.GoesMore
import KE.GoesEnum
import KE.KRevSl
import PySem.Challenge.RW_loosehours_k03_spans_that_hang
set_option Elab.async false
set_option linter.all false
set_option maxRecDepth 100000
set_option maxHeartbeats 4000000
/-! DL: a plain-data layer over the hand layer: every def becomes a plain function over PyData. -/
namespace DL
open PySem PySem.Spec PyProof.Rows L2

abbrev D := PyData
/-- a mutable object -/
inductive O where
  | lst (ds : List D)
  | dic (kds : List (Key × D))
/-- the store: none is an object that is no longer tracked -/
abbrev Sto := List (Option O)
/-- a value: data, or a place in the store -/
inductive Val where
  | d (x : D)
  | loc (n : Nat)
  /-- a list that is read, never written: the script -/
  | scr (ds : List D)
abbrev Ev := List (Option Val)
/-- an error: its class by name -/
structure XV where
  cls : Str
inductive R (α : Type) where
  | ok (a : α) (S : Sto)
  | exc (x : XV) (S : Sto)
  | bad
def R.bind {α β : Type} (r : R α) (k : α → Sto → R β) : R β := match r with
  | .ok a S => k a S
  | .exc x S => .exc x S
  | .bad => .bad
inductive Flow where
  | nx (ρ : Ev) | bk (ρ : Ev) | ct (ρ : Ev) | rt (v : Val) | ex (x : XV) (ρ : Ev)
def R.st {α : Type} (r : R α) (ρ : Ev) (k : α → Sto → R Flow) : R Flow := match r with
  | .ok a S => k a S
  | .exc x S => .ok (.ex x ρ) S
  | .bad => .bad
abbrev Ex := Ev → Sto → R Val
abbrev Te := Ev → Sto → R Bool
abbrev La := Ev → Sto → R (List Val)
abbrev Blk := Ev → Sto → R Flow

/-! ### data and the heap -/
def keyD : Key → D
  | .inl i => .int i
  | .inr x => .str x
section
variable (A : Addr → Prop) (H : Hp)
mutual
inductive Rep : D → V → Prop
  | non : Rep .none .non
  | bl (b : Bool) : Rep (.bool b) (.bl b)
  | int (i : Int) : Rep (.int i) (.int i)
  | str (x : Str) : Rep (.str x) (.str x)
  | tup {a : Addr} {vs : List V} {ds : List D} : H a = some (.tup vs) → vs.length ≤ sizeLine → RepL ds vs → Rep (.tuple ds) (.ref a)
  | lst {a : Addr} {vs : List V} {ds : List D} : ¬ A a → H a = some (.lst vs) → vs.length ≤ sizeLine → RepL ds vs → Rep (.list ds) (.ref a)
  | dic {a : Addr} {kvs : List (Key × V)} {kds : List (D × D)} : ¬ A a → Rd H a (.dK kvs) → kvs.length ≤ sizeLine → RepK kds kvs → Rep (.dict kds) (.ref a)
inductive RepL : List D → List V → Prop
  | nil : RepL [] []
  | cons {d : D} {v : V} {ds : List D} {vs : List V} : Rep d v → RepL ds vs → RepL (d :: ds) (v :: vs)
inductive RepK : List (D × D) → List (Key × V) → Prop
  | nil : RepK [] []
  | cons {k : Key} {d : D} {v : V} {ds : List (D × D)} {vs : List (Key × V)} : Rep d v → RepK ds vs → RepK ((keyD k, d) :: ds) ((k, v) :: vs)
end
end

/-- what is kept of H in H' with A' for A: all that is not A -/
structure Kp (A : Addr → Prop) (H : Hp) (A' : Addr → Prop) (H' : Hp) : Prop where
  tup : ∀ a vs, H a = some (.tup vs) → H' a = some (.tup vs)
  fr : ∀ a o, H a = some o → ¬ A a → H' a = some o
  grow : ∀ a o, H a = some o → A' a → A a
section
variable {A A' : Addr → Prop} {H H' : Hp}
theorem Kp.rd (k : Kp A H A' H') {a : Addr} {u : HO} (n : ¬ A a) (r : Rd H a u) : Rd H' a u := by
  rcases r with r | ⟨o, r⟩
  · exact .inl (k.fr a _ r n)
  · exact .inr ⟨o, k.fr a _ r n⟩
theorem Kp.na (k : Kp A H A' H') {a : Addr} {u : HO} (n : ¬ A a) (r : Rd H a u) : ¬ A' a := fun z => by
  rcases r with r | ⟨o, r⟩
  · exact n (k.grow a _ r z)
  · exact n (k.grow a _ r z)
mutual
theorem Rep.keep (k : Kp A H A' H') : ∀ (d : D) (v : V), Rep A H d v → Rep A' H' d v
  | .none, _, h => by cases h; exact .non
  | .bool _, _, h => by cases h; exact .bl _
  | .int _, _, h => by cases h; exact .int _
  | .str _, _, h => by cases h; exact .str _
  | .tuple ds, _, h => by
    cases h with
    | tup h hl r => exact .tup (k.tup _ _ h) hl (RepL.keep k ds _ r)
  | .list ds, _, h => by
    cases h with
    | lst n h hl r => exact .lst (k.na n (.inl h)) (k.fr _ _ h n) hl (RepL.keep k ds _ r)
  | .dict ds, _, h => by
    cases h with
    | dic n h hl r => exact .dic (k.na n h) (k.rd n h) hl (RepK.keep k ds _ r)
theorem RepL.keep (k : Kp A H A' H') : ∀ (ds : List D) (vs : List V), RepL A H ds vs → RepL A' H' ds vs
  | [], _, h => by cases h; exact .nil
  | d :: ds, _, h => by
    cases h with
    | cons h1 h2 => exact .cons (Rep.keep k d _ h1) (RepL.keep k ds _ h2)
theorem RepK.keep (k : Kp A H A' H') : ∀ (ds : List (D × D)) (vs : List (Key × V)), RepK A H ds vs → RepK A' H' ds vs
  | [], _, h => by cases h; exact .nil
  | (_, d) :: ds, _, h => by
    cases h with
    | cons h1 h2 => exact .cons (Rep.keep k d _ h1) (RepK.keep k ds _ h2)
end
theorem RepL.length : ∀ {ds : List D} {vs : List V}, RepL A H ds vs → ds.length = vs.length
  | _, _, .nil => rfl
  | _, _, .cons _ r => by rw [List.length_cons, List.length_cons, RepL.length r]
theorem RepL.get : ∀ {ds : List D} {vs : List V}, RepL A H ds vs → ∀ {i : Nat} {d : D}, ds[i]? = some d → ∃ v, vs[i]? = some v ∧ Rep A H d v
  | _, _, .nil, i, d, e => by simp at e
  | _, _, .cons h _, 0, d, e => by simp at e; subst e; exact ⟨_, rfl, h⟩
  | _, _, .cons _ r, i + 1, d, e => by
    obtain ⟨v, h1, h2⟩ := RepL.get r (i := i) (by simpa using e)
    exact ⟨v, by simpa using h1, h2⟩
theorem RepL.getV : ∀ {ds : List D} {vs : List V}, RepL A H ds vs → ∀ {i : Nat} {v : V}, vs[i]? = some v → ∃ d, ds[i]? = some d ∧ Rep A H d v
  | _, _, .nil, i, d, e => by simp at e
  | _, _, .cons h _, 0, d, e => by simp at e; subst e; exact ⟨_, rfl, h⟩
  | _, _, .cons _ r, i + 1, d, e => by
    obtain ⟨v, h1, h2⟩ := RepL.getV r (i := i) (by simpa using e)
    exact ⟨v, by simpa using h1, h2⟩
theorem RepL.append : ∀ {ds es : List D} {vs us : List V}, RepL A H ds vs → RepL A H es us → RepL A H (ds ++ es) (vs ++ us)
  | _, _, _, _, .nil, s => s
  | _, _, _, _, .cons h r, s => .cons h (RepL.append r s)
theorem RepL.take : ∀ {ds : List D} {vs : List V} (n : Nat), RepL A H ds vs → RepL A H (ds.take n) (vs.take n)
  | _, _, 0, _ => .nil
  | _, _, _ + 1, .nil => .nil
  | _, _, n + 1, .cons h r => .cons h (RepL.take n r)
theorem RepL.drop : ∀ {ds : List D} {vs : List V} (n : Nat), RepL A H ds vs → RepL A H (ds.drop n) (vs.drop n)
  | _, _, 0, h => h
  | _, _, _ + 1, .nil => .nil
  | _, _, n + 1, .cons _ r => RepL.drop n r
theorem RepL.set {d : D} {v : V} (h : Rep A H d v) : ∀ {ds : List D} {vs : List V} (n : Nat), RepL A H ds vs → RepL A H (ds.set n d) (vs.set n v)
  | _, _, _, .nil => .nil
  | _, _, 0, .cons _ r => .cons h r
  | _, _, n + 1, .cons g r => .cons g (RepL.set h n r)
theorem RepL.reverse : ∀ {ds : List D} {vs : List V}, RepL A H ds vs → RepL A H ds.reverse vs.reverse
  | _, _, .nil => .nil
  | _, _, .cons h r => by
    rw [List.reverse_cons, List.reverse_cons]
    exact RepL.append (RepL.reverse r) (.cons h .nil)
/-- fewer addresses are shut -/
theorem Rep.shut {B : Addr → Prop} (h : ∀ a, B a → A a) {d : D} {v : V} (r : Rep A H d v) : Rep B H d v := Rep.keep ⟨fun _ _ q => q, fun _ _ q _ => q, fun _ _ _ z => h _ z⟩ d v r
end

/-! ### the store and the heap -/
structure Cor (Ω : PySem.W.Frag) where
  m : List Addr
  A : Addr → Prop
def ORep (c : Cor Ω) (H : Hp) (a : Addr) : O → Prop
  | .lst ds => ∃ vs, H a = some (.lst vs) ∧ vs.length ≤ sizeLine ∧ RepL c.A H ds vs
  | .dic kds => ∃ kvs, H a = some (.dK kvs) ∧ kvs.length ≤ sizeLine ∧ RepK c.A H (kds.map fun p => (keyD p.1, p.2)) kvs
def live (c : Cor Ω) (S : Sto) (a : Addr) : Prop := ∃ (n : Nat) (o : O), c.m[n]? = some a ∧ S[n]? = some (some o)
structure Rel (c : Cor Ω) (S : Sto) (H : Hp) : Prop where
  len : c.m.length = S.length
  inj : ∀ (n n' : Nat) (a : Addr) (o o' : O), c.m[n]? = some a → c.m[n']? = some a → S[n]? = some (some o) → S[n']? = some (some o') → n = n'
  ob : ∀ (n : Nat) (a : Addr) (o : O), c.m[n]? = some a → S[n]? = some (some o) → c.A a ∧ ORep c H a o
  tr : ∀ a, c.A a → ∃ o, H a = some o
  nt : ∀ a vs, H a = some (.tup vs) → ¬ c.A a
/-- from a state to a later one -/
structure Nx (c : Cor Ω) (S : Sto) (H : Hp) (c' : Cor Ω) (S' : Sto) (H' : Hp) : Prop where
  pre : c.m <+: c'.m
  grow : ∀ a, c'.A a → c.A a ∨ H a = none
  lock : ∀ a, c.A a → ¬ live c S a → c'.A a
  rel : Rel c' S' H'
  fr : ∀ a o, H a = some o → ¬ live c S a → H' a = some o
  lv : ∀ a, live c' S' a → live c S a ∨ H a = none
section
variable {c c1 c2 : Cor Ω} {S S1 S2 : Sto} {H H1 H2 : Hp}
theorem Rel.live (r : Rel c S H) {a : Addr} (h : live c S a) : c.A a := by
  obtain ⟨n, o, h1, h2⟩ := h
  exact (r.ob n a o h1 h2).1
theorem Nx.refl (r : Rel c S H) : Nx c S H c S H := ⟨List.prefix_refl _, fun _ h => .inl h, fun _ h _ => h, r, fun _ _ h _ => h, fun _ h => .inl h⟩
theorem Nx.trans (r : Rel c S H) (x : Nx c S H c1 S1 H1) (y : Nx c1 S1 H1 c2 S2 H2) : Nx c S H c2 S2 H2 where
  pre := x.pre.trans y.pre
  grow := fun a h => by
    rcases y.grow a h with h | h
    · exact x.grow a h
    · cases q : H a with
      | none => exact .inr rfl
      | some o =>
        by_cases l : live c S a
        · exact .inl (r.live l)
        · rw [x.fr a o q l] at h; cases h
  lock := fun a h l => y.lock a (x.lock a h l) fun z => by
    rcases x.lv a z with z | z
    · exact l z
    · obtain ⟨o, q⟩ := r.tr a h
      rw [q] at z; cases z
  rel := y.rel
  fr := fun a o q l => y.fr a o (x.fr a o q l) fun z => by
    rcases x.lv a z with z | z
    · exact l z
    · rw [q] at z; cases z
  lv := fun a h => by
    rcases y.lv a h with h | h
    · exact x.lv a h
    · cases q : H a with
      | none => exact .inr rfl
      | some o =>
        by_cases l : live c S a
        · exact .inl l
        · rw [x.fr a o q l] at h; cases h
theorem Nx.kp (r : Rel c S H) (x : Nx c S H c1 S1 H1) : Kp c.A H c1.A H1 where
  tup := fun a vs h => x.fr a _ h fun z => r.nt a vs h (r.live z)
  fr := fun a o h n => x.fr a o h fun z => n (r.live z)
  grow := fun a o h z => by
    rcases x.grow a z with z | z
    · exact z
    · rw [h] at z; cases z
end
def VRep (c : Cor Ω) (H : Hp) : Val → V → Prop
  | .d x, u => Rep c.A H x u
  | .loc n, u => ∃ a, c.m[n]? = some a ∧ u = .ref a
  | .scr ds, u => ∃ a vs, u = .ref a ∧ ((¬ c.A a ∧ Rd H a (.lst vs)) ∨ ∀ H', SqL Ω H' a vs) ∧ vs.length ≤ sizeLine ∧ RepL c.A H ds vs
theorem prefix_get {α : Type} {l l' : List α} (h : l <+: l') {n : Nat} {a : α} (e : l[n]? = some a) : l'[n]? = some a := by
  obtain ⟨t, rfl⟩ := h
  obtain ⟨hn, _⟩ := List.getElem?_eq_some_iff.mp e
  rw [List.getElem?_append_left hn]; exact e
theorem VRep.keep {c c1 : Cor Ω} {S S1 : Sto} {H H1 : Hp} (r : Rel c S H) (x : Nx c S H c1 S1 H1) : ∀ {v : Val} {u : V}, VRep c H v u → VRep c1 H1 v u
  | .d _, _, h => Rep.keep (x.kp r) _ _ h
  | .loc _, _, ⟨a, h1, h2⟩ => ⟨a, prefix_get x.pre h1, h2⟩
  | .scr _, _, ⟨a, vs, h1, h2, h4, h5⟩ => ⟨a, vs, h1, h2.elim (fun z => .inl ⟨(x.kp r).na z.1 z.2, (x.kp r).rd z.1 z.2⟩) .inr, h4, RepL.keep (x.kp r) _ _ h5⟩
inductive VRepL (c : Cor Ω) (H : Hp) : List Val → List V → Prop
  | nil : VRepL c H [] []
  | cons {x : Val} {v : V} {xs : List Val} {vs : List V} : VRep c H x v → VRepL c H xs vs → VRepL c H (x :: xs) (v :: vs)
theorem VRepL.keep {c c1 : Cor Ω} {S S1 : Sto} {H H1 : Hp} (r : Rel c S H) (x : Nx c S H c1 S1 H1) : ∀ {v : List Val} {u : List V}, VRepL c H v u → VRepL c1 H1 v u
  | _, _, .nil => .nil
  | _, _, .cons h t => .cons (h.keep r x) (VRepL.keep r x t)
theorem VRepL.length {c : Cor Ω} {H : Hp} : ∀ {v : List Val} {u : List V}, VRepL c H v u → v.length = u.length
  | _, _, .nil => rfl
  | _, _, .cons _ t => by rw [List.length_cons, List.length_cons, t.length]
structure RepE (c : Cor Ω) (H : Hp) (ρ : Ev) (σ : L2.St) : Prop where
  len : ρ.length = σ.length
  at' : ∀ (i : Nat) (v : Val), ρ[i]? = some (some v) → ∃ u, σ[i]? = some (some u) ∧ VRep c H v u
theorem RepE.keep {c c1 : Cor Ω} {S S1 : Sto} {H H1 : Hp} {ρ : Ev} {σ : L2.St} (r : Rel c S H) (x : Nx c S H c1 S1 H1) (e : RepE c H ρ σ) : RepE c1 H1 ρ σ :=
  ⟨e.len, fun i v h => let ⟨u, h1, h2⟩ := e.at' i v h; ⟨u, h1, h2.keep r x⟩⟩
theorem RepE.set {c : Cor Ω} {H : Hp} {ρ : Ev} {σ : L2.St} {v : Val} {u : V} (e : RepE c H ρ σ) (h : VRep c H v u) (i : Nat) : RepE c H (ρ.set i (some v)) (σ.set i (some u)) := by
  refine ⟨by simpa using e.len, fun j w hj => ?_⟩
  by_cases q : i = j
  · subst q
    have hl : i < ρ.length := by
      cases Nat.lt_or_ge i ρ.length with
      | inl h => exact h
      | inr h => rw [List.getElem?_eq_none (by simpa using h)] at hj; cases hj
    rw [List.getElem?_set_self hl] at hj
    cases hj
    exact ⟨u, List.getElem?_set_self (e.len ▸ hl), h⟩
  · rw [List.getElem?_set_ne q] at hj
    obtain ⟨z, h1, h2⟩ := e.at' j w hj
    exact ⟨z, by rw [List.getElem?_set_ne q]; exact h1, h2⟩

/-! ### errors -/
def XRep (mg : Str → Option Value) (x : XV) (cls : Value) (d : Option Addr) (_ : Hp) : Prop := ∃ C, mg x.cls = some (.ref C) ∧ cls = .ref C ∧ d = none

/-! ### what comes behind a piece -/
section
variable {Ω : PySem.W.Frag} (mg : Str → Option Value) (W : WX)
def Aft {α : Type} (c : Cor Ω) (S : Sto) (σ : L2.St) (H : Hp) (r : R α) (k : α → Cor Ω → Sto → Hp → Prop) : Prop := match r with
  | .ok a S' => ∀ c' H', Nx c S H c' S' H' → k a c' S' H'
  | .exc x S' => ∀ c' H' cls d, Nx c S H c' S' H' → XRep mg x cls d H' → W cls d σ H'
  | .bad => False
/-- the reading of an expression -/
def tE (Ω : PySem.W.Frag) (mg : Str → Option Value) (W : WX) (f : Ex) : TE := fun σ H Q => ∃ (c : Cor Ω) (ρ : Ev) (S : Sto), Rel c S H ∧ RepE c H ρ σ ∧ Aft mg W c S σ H (f ρ S) fun v c' _ H' => ∀ u, VRep c' H' v u → Q u H'
def tT (Ω : PySem.W.Frag) (mg : Str → Option Value) (W : WX) (f : Te) : TT := fun σ H Q => ∃ (c : Cor Ω) (ρ : Ev) (S : Sto), Rel c S H ∧ RepE c H ρ σ ∧ Aft mg W c S σ H (f ρ S) fun b _ _ H' => Q b H'
def tA (Ω : PySem.W.Frag) (mg : Str → Option Value) (W : WX) (f : La) : TA := fun σ H Q => ∃ (c : Cor Ω) (ρ : Ev) (S : Sto), Rel c S H ∧ RepE c H ρ σ ∧ Aft mg W c S σ H (f ρ S) fun vs c' _ H' => ∀ us, VRepL c' H' vs us → Q us H'
def AftS (c : Cor Ω) (S : Sto) (H : Hp) (r : R Flow) (D : Ends) : Prop := match r with
  | .ok (.nx ρ) S' => ∀ c' σ' H', Nx c S H c' S' H' → RepE c' H' ρ σ' → D.nx σ' H'
  | .ok (.bk ρ) S' => ∀ c' σ' H', Nx c S H c' S' H' → RepE c' H' ρ σ' → D.bk σ' H'
  | .ok (.ct ρ) S' => ∀ c' σ' H', Nx c S H c' S' H' → RepE c' H' ρ σ' → D.ct σ' H'
  | .ok (.rt v) S' => ∀ c' H' u, Nx c S H c' S' H' → VRep c' H' v u → D.rt u H'
  | .ok (.ex x ρ) S' => ∀ c' σ' H' cls d, Nx c S H c' S' H' → RepE c' H' ρ σ' → XRep mg x cls d H' → W cls d σ' H'
  | .exc _ _ => False
  | .bad => False
def tS (Ω : PySem.W.Frag) (mg : Str → Option Value) (W : WX) (g : Blk) : TS := fun D σ H => ∃ (c : Cor Ω) (ρ : Ev) (S : Sto), Rel c S H ∧ RepE c H ρ σ ∧ AftS mg W c S H (g ρ S) D
end
section
variable {mg : Str → Option Value} {W : WX} {c c1 : Cor Ω} {S S1 : Sto} {σ : L2.St} {H H1 : Hp} {α β : Type}
theorem Aft.mono {r : R α} {k k' : α → Cor Ω → Sto → Hp → Prop} (h : Aft mg W c S σ H r k) (hk : ∀ a c' S' H', Nx c S H c' S' H' → k a c' S' H' → k' a c' S' H') : Aft mg W c S σ H r k' := by
  cases r with
  | ok a S' => exact fun c' H' x => hk a c' S' H' x (h c' H' x)
  | exc x S' => exact h
  | bad => exact h
theorem Aft.bind (hr : Rel c S H) {r : R α} {k : α → Sto → R β} {K : β → Cor Ω → Sto → Hp → Prop} (h : Aft mg W c S σ H (r.bind k) K) :
    Aft mg W c S σ H r fun a c1 S1 H1 => Aft mg W c1 S1 σ H1 (k a S1) K := by
  cases r with
  | ok a S1 =>
    intro c1 H1 x1
    have h' : Aft mg W c S σ H (k a S1) K := h
    revert h'
    cases k a S1 with
    | ok b S2 => exact fun h' c2 H2 x2 => h' c2 H2 (x1.trans hr x2)
    | exc e S2 => exact fun h' c2 H2 cls d x2 => h' c2 H2 cls d (x1.trans hr x2)
    | bad => exact fun h' => h'
  | exc x S' => exact h
  | bad => exact h
theorem AftS.later (hr : Rel c S H) (x : Nx c S H c1 S1 H1) {r : R Flow} {D : Ends} (h : AftS mg W c S H r D) : AftS mg W c1 S1 H1 r D := by
  cases r with
  | ok f S' =>
    cases f with
    | nx ρ => exact fun c' σ' H' y e => h c' σ' H' (x.trans hr y) e
    | bk ρ => exact fun c' σ' H' y e => h c' σ' H' (x.trans hr y) e
    | ct ρ => exact fun c' σ' H' y e => h c' σ' H' (x.trans hr y) e
    | rt v => exact fun c' H' u y e => h c' H' u (x.trans hr y) e
    | ex z ρ => exact fun c' σ' H' cls d y e => h c' σ' H' cls d (x.trans hr y) e
  | exc x S' => exact h
  | bad => exact h
/-- a statement that begins with an expression -/
theorem Aft.st (hr : Rel c S H) {ρ : Ev} (he : RepE c H ρ σ) {r : R α} {k : α → Sto → R Flow} {D : Ends} (h : AftS mg W c S H (r.st ρ k) D) :
    Aft mg W c S σ H r fun a c1 S1 H1 => AftS mg W c1 S1 H1 (k a S1) D := by
  cases r with
  | ok a S1 => exact fun c1 H1 x1 => AftS.later hr x1 h
  | exc x S' => exact fun c' H' cls d y z => h c' σ H' cls d y (he.keep hr y) z
  | bad => exact h
end
end DL

namespace DL
open PySem PySem.Spec PyProof.Rows L2
/-! ### judgements -/
theorem PE.imp {X : Cx} {e : Expr} {t t' : TE} (h : PE X e t) (hi : ∀ σ H Q, t' σ H Q → t σ H Q) : PE X e t' := ⟨fun pins s σ H Q I hw => h.run pins s σ H Q I (hi σ H Q hw)⟩
theorem PT.imp {X : Cx} {e : Expr} {t t' : TT} (h : PT X e t) (hi : ∀ σ H Q, t' σ H Q → t σ H Q) : PT X e t' := ⟨fun pins s σ H Q I hw => h.run pins s σ H Q I (hi σ H Q hw)⟩
theorem PW.imp {X : Cx} {e : Expr} {t t' : TT} (h : PW X e t) (hi : ∀ σ H Q, t' σ H Q → t σ H Q) : PW X e t' := ⟨fun wh pins s σ H Q I hw => h.run wh pins s σ H Q I (hi σ H Q hw)⟩
theorem PA.imp {X : Cx} {e : List Expr} {t t' : TA} (h : PA X e t) (hi : ∀ σ H Q, t' σ H Q → t σ H Q) : PA X e t' := ⟨fun p pins s σ H Q I hw => h.run p pins s σ H Q I (hi σ H Q hw)⟩
theorem PS.imp {X : Cx} {st : Stmt} {t t' : TS} (h : PS X st t) (hi : ∀ D σ H, t' D σ H → t D σ H) : PS X st t' := ⟨fun pins s σ H D I hw => h.run pins s σ H D I (hi D σ H hw)⟩
theorem PSs.imp {X : Cx} {st : List Stmt} {t t' : TS} (h : PSs X st t) (hi : ∀ D σ H, t' D σ H → t D σ H) : PSs X st t' := ⟨fun pins s σ H D I hw => h.run pins s σ H D I (hi D σ H hw)⟩
theorem OpR.imp {X : Cx} {f : Value → Value → Sem Value} {r r' : R2} (h : OpR X f r) (hi : ∀ x y H Q, r' x y H Q → r x y H Q) : OpR X f r' := fun pins s σ H x y v u Q I rx ry q => h pins s σ H x y v u Q I rx ry (hi _ _ _ _ q)
theorem UnR.imp {X : Cx} {f : Value → Sem Value} {r r' : V → Hp → VK → Prop} (h : UnR X f r) (hi : ∀ x H Q, r' x H Q → r x H Q) : UnR X f r' := fun pins s σ H x v Q I rx q => h pins s σ H x v Q I rx (hi _ _ _ q)
theorem CallR.imp {X : Cx} {f : Value} {r r' : List V → Hp → VK → Prop} (h : CallR X f r) (hi : ∀ xs H Q, r' xs H Q → r xs H Q) : CallR X f r' := fun pins s σ H xs us Q I rx q => h pins s σ H xs us Q I rx (hi _ _ _ q)
theorem IxR.imp {X : Cx} {r r' : R2} (h : IxR X r) (hi : ∀ x y H Q, r' x y H Q → r x y H Q) : IxR X r' := fun value slice pins s σ H x y v u Q I rx ry q hs => h value slice pins s σ H x y v u Q I rx ry (hi _ _ _ _ q) hs
abbrev SE (X : Cx) (W : WX) (e : Expr) (f : Ex) : Prop := PE X e (tE X.K X.mg W f)
abbrev ST (X : Cx) (W : WX) (e : Expr) (f : Te) : Prop := PT X e (tT X.K X.mg W f)
abbrev SW (X : Cx) (W : WX) (e : Expr) (f : Te) : Prop := PW X e (tT X.K X.mg W f)
abbrev SA (X : Cx) (W : WX) (es : List Expr) (f : La) : Prop := PA X es (tA X.K X.mg W f)
abbrev SS (X : Cx) (W : WX) (st : Stmt) (g : Blk) : Prop := PS X st (tS X.K X.mg W g)
abbrev SSs (X : Cx) (W : WX) (sts : List Stmt) (g : Blk) : Prop := PSs X sts (tS X.K X.mg W g)

/-! ### reading values -/
def look (S : Sto) : Val → Option D
  | .d x => some x
  | .loc n => match S[n]? with
    | some (some (.lst ds)) => some (.list ds)
    | some (some (.dic kds)) => some (.dict (kds.map fun p => (keyD p.1, p.2)))
    | _ => none
  | .scr _ => none
def lookR (S : Sto) : Val → Option D
  | .scr ds => some (.list ds)
  | .d x => some x
  | .loc n => look S (.loc n)
inductive LRep (c : Cor Ω) (H : Hp) : D → V → Prop
  | of {d : D} {u : V} : Rep c.A H d u → LRep c H d u
  | lst {a : Addr} {vs : List V} {ds : List D} : H a = some (.lst vs) → vs.length ≤ sizeLine → RepL c.A H ds vs → LRep c H (.list ds) (.ref a)
  | dic {a : Addr} {kvs : List (Key × V)} {kds : List (D × D)} : H a = some (.dK kvs) → kvs.length ≤ sizeLine → RepK c.A H kds kvs → LRep c H (.dict kds) (.ref a)
inductive LRepR (c : Cor Ω) (H : Hp) : D → V → Prop
  | of {d : D} {u : V} : LRep c H d u → LRepR c H d u
  | scr {a : Addr} {vs : List V} {ds : List D} : (Rd H a (.lst vs) ∨ ∀ H', SqL Ω H' a vs) → vs.length ≤ sizeLine → RepL c.A H ds vs → LRepR c H (.list ds) (.ref a)
section
variable {c c1 : Cor Ω} {S S1 : Sto} {H H1 : Hp} {u : V} {x : D}
theorem look_rep (r : Rel c S H) : ∀ {v : Val} {u : V} {x : D}, VRep c H v u → look S v = some x → LRep c H x u
  | .d y, u, x, h, e => by cases e; exact .of h
  | .scr _, _, _, _, e => by cases e
  | .loc n, u, x, ⟨a, h1, h2⟩, e => by
    subst h2
    simp only [look] at e
    split at e
    · rename_i ds h3
      cases e
      obtain ⟨_, vs, q1, q2, q3⟩ := r.ob n a _ h1 h3
      exact .lst q1 q2 q3
    · rename_i kds h3
      cases e
      obtain ⟨_, vs, q1, q2, q3⟩ := r.ob n a _ h1 h3
      exact .dic q1 q2 q3
    · cases e
theorem lookR_rep (r : Rel c S H) : ∀ {v : Val} {u : V} {x : D}, VRep c H v u → lookR S v = some x → LRepR c H x u
  | .d y, u, x, h, e => by cases e; exact .of (.of h)
  | .scr _, _, _, ⟨a, vs, h1, h3, h4, h5⟩, e => by cases e; subst h1; exact .scr (h3.elim (fun z => .inl z.2) .inr) h4 h5
  | .loc n, u, x, h, e => .of (look_rep r h (by simpa [lookR] using e))
theorem LRep.int {i : Int} (h : LRep c H (.int i) u) : u = .int i := by cases h with | of h => cases h; rfl
theorem LRep.str {i : Str} (h : LRep c H (.str i) u) : u = .str i := by cases h with | of h => cases h; rfl
theorem LRep.bl {i : Bool} (h : LRep c H (.bool i) u) : u = .bl i := by cases h with | of h => cases h; rfl
theorem LRep.non (h : LRep c H .none u) : u = .non := by cases h with | of h => cases h; rfl
theorem LRep.tup {ds : List D} (h : LRep c H (.tuple ds) u) : ∃ a vs, u = .ref a ∧ H a = some (.tup vs) ∧ vs.length ≤ sizeLine ∧ RepL c.A H ds vs := by
  cases h with | of h => cases h with | tup h1 h2 h3 => exact ⟨_, _, rfl, h1, h2, h3⟩
theorem LRep.list {ds : List D} (h : LRep c H (.list ds) u) : ∃ a vs, u = .ref a ∧ H a = some (.lst vs) ∧ vs.length ≤ sizeLine ∧ RepL c.A H ds vs := by
  cases h with
  | of h => cases h with | lst h0 h1 h2 h3 => exact ⟨_, _, rfl, h1, h2, h3⟩
  | lst h1 h2 h3 => exact ⟨_, _, rfl, h1, h2, h3⟩
theorem LRep.dict {ds : List (D × D)} (h : LRep c H (.dict ds) u) : ∃ a vs, u = .ref a ∧ Rd H a (.dK vs) ∧ vs.length ≤ sizeLine ∧ RepK c.A H ds vs := by
  cases h with
  | of h => cases h with | dic h0 h1 h2 h3 => exact ⟨_, _, rfl, h1, h2, h3⟩
  | dic h1 h2 h3 => exact ⟨_, _, rfl, .inl h1, h2, h3⟩
theorem LRepR.list {ds : List D} (h : LRepR c H (.list ds) u) : ∃ a vs, u = .ref a ∧ SqL Ω H a vs ∧ vs.length ≤ sizeLine ∧ RepL c.A H ds vs := by
  cases h with
  | of h => obtain ⟨a, vs, h1, h2, h3, h4⟩ := h.list; exact ⟨a, vs, h1, SqL.of h2, h3, h4⟩
  | scr h1 h2 h3 => exact ⟨_, _, rfl, h1.elim .inl (fun z => z H), h2, h3⟩
theorem LRepR.plain {d : D} (hd : ∀ ds, d ≠ .list ds) (h : LRepR c H d u) : LRep c H d u := by
  cases h with
  | of h => exact h
  | scr h1 h2 h3 => exact absurd rfl (hd _)
theorem LRep.keep (r : Rel c S H) (x1 : Nx c S H c1 S H1) (hl : ∀ a, live c S a → H1 a = H a) : ∀ {d : D} {u : V}, LRep c H d u → LRep c1 H1 d u
  | _, _, .of h => .of (Rep.keep (x1.kp r) _ _ h)
  | _, _, .lst (a := a) h1 h2 h3 => by
    refine .lst ?_ h2 (RepL.keep (x1.kp r) _ _ h3)
    by_cases l : live c S a
    · rw [hl a l]; exact h1
    · exact x1.fr a _ h1 l
  | _, _, .dic (a := a) h1 h2 h3 => by
    refine .dic ?_ h2 (RepK.keep (x1.kp r) _ _ h3)
    by_cases l : live c S a
    · rw [hl a l]; exact h1
    · exact x1.fr a _ h1 l
end

/-! ### a new object, which is not in the store -/
theorem Nx.new {c : Cor Ω} {S : Sto} {H : Hp} (r : Rel c S H) {p : Addr} {o : HO} (hp : H p = none) : Nx c S H c S (upd H p o) := by
  have na : ∀ a, c.A a → a ≠ p := fun a h e => by
    obtain ⟨q, z⟩ := r.tr a h
    rw [e, hp] at z; cases z
  have k : Kp c.A H c.A (upd H p o) := ⟨fun a vs h => by rw [upd_ne (ne_of_none h hp)]; exact h, fun a q h _ => by rw [upd_ne (ne_of_none h hp)]; exact h, fun _ _ _ z => z⟩
  refine ⟨List.prefix_refl _, fun _ h => .inl h, fun _ h _ => h, ⟨r.len, r.inj, fun n a ob h1 h2 => ?_, fun a h => ?_, fun a vs h => ?_⟩, fun a q h _ => by rw [upd_ne (ne_of_none h hp)]; exact h, fun _ h => .inl h⟩
  · obtain ⟨h3, h4⟩ := r.ob n a ob h1 h2
    refine ⟨h3, ?_⟩
    cases ob with
    | lst ds => obtain ⟨vs, q1, q2, q3⟩ := h4; exact ⟨vs, by rw [upd_ne (na a h3)]; exact q1, q2, RepL.keep k _ _ q3⟩
    | dic ds => obtain ⟨vs, q1, q2, q3⟩ := h4; exact ⟨vs, by rw [upd_ne (na a h3)]; exact q1, q2, RepK.keep k _ _ q3⟩
  · obtain ⟨q, z⟩ := r.tr a h
    exact ⟨q, by rw [upd_ne (na a h)]; exact z⟩
  · intro z
    rw [upd_ne (na a z)] at h
    exact r.nt a vs h z
theorem Rep.newTup {c : Cor Ω} {S : Sto} {H : Hp} (r : Rel c S H) {p : Addr} (hp : H p = none) {ds : List D} {vs : List V} (h : RepL c.A H ds vs) (hl : vs.length ≤ sizeLine) : Rep c.A (upd H p (.tup vs)) (.tuple ds) (.ref p) :=
  .tup upd_same hl (RepL.keep ((Nx.new r hp).kp r) _ _ h)
theorem Rep.newLst {c : Cor Ω} {S : Sto} {H : Hp} (r : Rel c S H) {p : Addr} (hp : H p = none) {ds : List D} {vs : List V} (h : RepL c.A H ds vs) (hl : vs.length ≤ sizeLine) : Rep c.A (upd H p (.lst vs)) (.list ds) (.ref p) :=
  .lst (fun z => by obtain ⟨o, q⟩ := r.tr p z; rw [hp] at q; cases q) upd_same hl (RepL.keep ((Nx.new r hp).kp r) _ _ h)

/-! ### names and constants -/
def eVar (i : Nat) : Ex := fun ρ S => match ρ[i]? with
  | some (some v) => .ok v S
  | _ => .bad
def eC (x : D) : Ex := fun _ S => .ok (.d x) S
section
variable {X : Cx} {W : WX}
theorem se_var {e : Expr} {i : Nat} (h : PE X e (tVar i)) : SE X W e (eVar i) := PE.imp h fun σ H Q ⟨c, ρ, S, hr, he, q⟩ => by
  unfold eVar at q
  split at q
  · rename_i v hv
    obtain ⟨u, h1, h2⟩ := he.at' i v hv
    exact ⟨u, h1, q c H (Nx.refl hr) u h2⟩
  · exact q.elim
theorem se_c {e : Expr} {x : D} {v : V} (h : PE X e (tC v)) (hx : ∀ A H, Rep A H x v) : SE X W e (eC x) := PE.imp h fun σ H Q ⟨c, ρ, S, hr, he, q⟩ => q c H (Nx.refl hr) v (hx _ _)
theorem se_int {i j pos} : SE X W (.Constant (.int i) j pos) (eC (.int i)) := se_c pe_int fun _ _ => .int i
theorem se_bl {i j pos} : SE X W (.Constant (.bool i) j pos) (eC (.bool i)) := se_c pe_bl fun _ _ => .bl i
theorem se_non {j pos} : SE X W (.Constant .none j pos) (eC .none) := se_c pe_non fun _ _ => .non
theorem se_str {i j pos} : SE X W (.Constant (.str i) j pos) (eC (.str i)) := se_c pe_str fun _ _ => .str i

/-! ### two expressions, then an operation that reads -/
def ofO (o : Option D) (S : Sto) : R Val := match o with
  | some r => .ok (.d r) S
  | none => .bad
def op2 (op : D → D → Option D) (v w : Val) (S : Sto) : R Val := ofO ((look S v).bind fun x => (look S w).bind fun y => op x y) S
def eBin (op : D → D → Option D) (fa fb : Ex) : Ex := fun ρ S => (fa ρ S).bind fun v S1 => (fb ρ S1).bind fun w S2 => op2 op v w S2
theorem two {mg : Str → Option Value} {β : Type} {c : Cor Ω} {S : Sto} {H : Hp} {ρ : Ev} {σ : L2.St} {fa fb : Ex} {k : Val → Val → Sto → R β} {K : β → Cor Ω → Sto → Hp → Prop} {R' : V → V → Hp → Prop} (hr : Rel c S H) (he : RepE c H ρ σ)
    (h : Aft mg W c S σ H ((fa ρ S).bind fun v S1 => (fb ρ S1).bind fun w S2 => k v w S2) K)
    (hR : ∀ v w c2 S2 H2 x y, Nx c S H c2 S2 H2 → VRep c2 H2 v x → VRep c2 H2 w y → Aft mg W c2 S2 σ H2 (k v w S2) K → R' x y H2) :
    tE Ω mg W fa σ H fun x H1 => tE Ω mg W fb σ H1 fun y H2 => R' x y H2 := by
  refine ⟨c, ρ, S, hr, he, (Aft.bind hr h).mono fun v c1 S1 H1 x1 h1 u hu => ?_⟩
  refine ⟨c1, ρ, S1, x1.rel, he.keep hr x1, (Aft.bind x1.rel h1).mono fun w c2 S2 H2 x2 h2 y hy => ?_⟩
  exact hR v w c2 S2 H2 u y (x1.trans hr x2) (hu.keep x1.rel x2) hy h2
/-- an operation on data: r2D Ω is its reading -/
def r2D (Ω : PySem.W.Frag) (op : D → D → Option D) : R2 := fun x y H Q => ∃ (c : Cor Ω) (S : Sto) (d e r : D), Rel c S H ∧ LRep c H d x ∧ LRep c H e y ∧ op d e = some r ∧ ∀ c' H' u, Nx c S H c' S H' → Rep c'.A H' r u → Q u H'
theorem op2_r {mg : Str → Option Value} {op : D → D → Option D} {c : Cor Ω} {S : Sto} {H : Hp} {σ : L2.St} {v w : Val} {x y : V} {Q : VK} (hr : Rel c S H) (hv : VRep c H v x) (hw : VRep c H w y)
    (h : Aft mg W c S σ H (op2 op v w S) fun v c' _ H' => ∀ u, VRep c' H' v u → Q u H') : r2D Ω op x y H Q := by
  unfold op2 at h
  cases e1 : look S v with
  | none => rw [e1] at h; exact h.elim
  | some d =>
    cases e2 : look S w with
    | none => rw [e1, e2] at h; exact h.elim
    | some e =>
      cases e3 : op d e with
      | none => simp only [e1, e2, e3, Option.bind] at h; exact h.elim
      | some r =>
        simp only [e1, e2, e3, Option.bind] at h
        exact ⟨c, S, d, e, r, hr, look_rep hr hv e1, look_rep hr hw e2, e3, fun c' H' u x1 hu => h c' H' x1 u hu⟩
theorem se_bin {o : Operator} {op : D → D → Option D} {a b : Expr} {fa fb : Ex} {pos : Pos} (ho : OpR X (binaryOp o) (r2D X.K op)) (ha : SE X W a fa) (hb : SE X W b fb) : SE X W (.BinOp a o b pos) (eBin op fa fb) :=
  PE.imp (pe_op ho ha hb) fun σ H Q ⟨c, ρ, S, hr, he, q⟩ => two hr he q fun v w c2 S2 H2 x y x1 hv hw h => op2_r x1.rel hv hw h
theorem se_cmp {o : CmpOp} {op : D → D → Option D} {a b : Expr} {fa fb : Ex} {pos : Pos} (ho : OpR X (compareOp o) (r2D X.K op)) (ha : SE X W a fa) (hb : SE X W b fb) (hm : behindInMarks o b = false) : SE X W (.Compare a [o] [b] pos) (eBin op fa fb) :=
  PE.imp (pe_cmpR ho ha hb hm) fun σ H Q ⟨c, ρ, S, hr, he, q⟩ => two hr he q fun v w c2 S2 H2 x y x1 hv hw h => op2_r x1.rel hv hw h
/-- a comparison as a test -/
def asB (v : Val) (S : Sto) : R Bool := match v with
  | .d (.bool b) => .ok b S
  | _ => .bad
def tOf (f : Ex) : Te := fun ρ S => (f ρ S).bind asB
theorem asB_r {mg : Str → Option Value} {c : Cor Ω} {S : Sto} {H : Hp} {σ : L2.St} {v : Val} {u : V} {k : Bool → Cor Ω → Sto → Hp → Prop} (hr : Rel c S H) (hv : VRep c H v u) (h : Aft mg W c S σ H (asB v S) k) : ∃ b, v = .d (.bool b) ∧ u = .bl b ∧ k b c S H := by
  unfold asB at h
  split at h
  · cases hv; exact ⟨_, rfl, rfl, h c H (Nx.refl hr)⟩
  · exact h.elim
theorem st_cmp {o : CmpOp} {op : D → D → Option D} {a b : Expr} {fa fb : Ex} {pos : Pos} (ho : OpR X (compareOp o) (r2D X.K op)) (ha : SE X W a fa) (hb : SE X W b fb) (hm : behindInMarks o b = false) : ST X W (.Compare a [o] [b] pos) (tOf (eBin op fa fb)) :=
  PT.imp (pt_cmpR ho ha hb hm) fun σ H Q ⟨c, ρ, S, hr, he, q⟩ => two hr he (Aft.bind hr q) fun v w c2 S2 H2 x y x1 hv hw h =>
    op2_r x1.rel hv hw (h.mono fun v c' S' H' x2 h' u hu => let ⟨b, _, e, q⟩ := asB_r x2.rel hu h'; ⟨b, e, q⟩)
end
end DL

namespace DL
open PySem PySem.Spec PyProof.Rows L2
/-! ### operations on data -/
def smallI (i : Int) : Bool := decide (-18446744073709551616 < i) && decide (i < 18446744073709551616)
def addD : D → D → Option D
  | .int i, .int j => some (.int (i + j))
  | .str x, .str y => if x.length + y.length ≤ sizeLine then some (.str (x ++ y)) else none
  | .tuple xs, .tuple ys => if xs.length + ys.length ≤ sizeLine then some (.tuple (xs ++ ys)) else none
  | .list xs, .list ys => if xs.length + ys.length ≤ sizeLine then some (.list (xs ++ ys)) else none
  | _, _ => none
def subD : D → D → Option D
  | .int i, .int j => some (.int (i - j))
  | _, _ => none
def mulD : D → D → Option D
  | .int i, .int j => if (smallI j || smallI i || decide (i.natAbs.log2 + j.natAbs.log2 < 1000000)) = true then some (.int (i * j)) else none
  | _, _ => none
def fdivD : D → D → Option D
  | .int i, .int j => if 0 < j ∧ j.natAbs.log2 < 9000 then some (.int (i / j)) else none
  | _, _ => none
def modD : D → D → Option D
  | .int i, .int j => if 0 < j then some (.int (i % j)) else none
  | _, _ => none
def powD : D → D → Option D
  | .int i, .int j => if 0 ≤ j ∧ j ≤ 1000000 ∧ i.natAbs < 18446744073709551616 then some (.int (i ^ j.toNat)) else none
  | _, _ => none
section
variable {X : Cx}
theorem o_add : OpR X (binaryOp .Add) (r2D X.K addD) := OpR.imp (op_add.or (op_add_str.or (op_catA.or op_cat))) fun x y H Q ⟨c, S, d, e, r, hr, hd, he, ho, q⟩ => by
  unfold addD at ho
  split at ho
  · cases ho; rw [hd.int, he.int]; exact .inl ⟨_, _, rfl, rfl, q c H _ (Nx.refl hr) (.int _)⟩
  · split at ho
    · cases ho; rw [hd.str, he.str]; exact .inr (.inl ⟨_, _, rfl, rfl, by assumption, q c H _ (Nx.refl hr) (.str _)⟩)
    · cases ho
  · split at ho
    · rename_i hl
      cases ho
      obtain ⟨a, vs, rfl, ha, hal, ra⟩ := hd.tup
      obtain ⟨b, us, rfl, hb, hbl, rb⟩ := he.tup
      have hl' : vs.length + us.length ≤ sizeLine := by rw [← ra.length, ← rb.length]; exact hl
      refine .inr (.inr (.inl ⟨a, b, vs, us, rfl, rfl, SqT.of ha, SqT.of hb, hl', fun e => ?_, fun _ e => ?_, fun _ _ p hp => ?_⟩))
      · subst e; cases ra; exact q c H _ (Nx.refl hr) (.tup hb hbl rb)
      · subst e; cases rb; rw [List.append_nil] at q; exact q c H _ (Nx.refl hr) (.tup ha hal ra)
      · exact q c _ _ (Nx.new hr hp) (Rep.newTup hr hp (ra.append rb) (by rw [List.length_append]; exact hl'))
    · cases ho
  · split at ho
    · rename_i hl
      cases ho
      obtain ⟨a, vs, rfl, ha, hal, ra⟩ := hd.list
      obtain ⟨b, us, rfl, hb, hbl, rb⟩ := he.list
      have hl' : vs.length + us.length ≤ sizeLine := by rw [← ra.length, ← rb.length]; exact hl
      exact .inr (.inr (.inr ⟨a, b, vs, us, rfl, rfl, ha, hb, hl', fun p hp => q c _ _ (Nx.new hr hp) (Rep.newLst hr hp (ra.append rb) (by rw [List.length_append]; exact hl'))⟩))
    · cases ho
  · cases ho
theorem o_sub : OpR X (binaryOp .Sub) (r2D X.K subD) := OpR.imp op_sub fun x y H Q ⟨c, S, d, e, r, hr, hd, he, ho, q⟩ => by
  unfold subD at ho
  split at ho
  · cases ho; rw [hd.int, he.int]; exact ⟨_, _, rfl, rfl, q c H _ (Nx.refl hr) (.int _)⟩
  · cases ho
theorem smallI_ok {i : Int} (h : smallI i = true) : -(2 ^ 64) < i ∧ i < 2 ^ 64 := by
  unfold smallI at h
  simp only [Bool.and_eq_true, decide_eq_true_eq] at h
  exact ⟨by omega, by omega⟩
theorem o_mul : OpR X (binaryOp .Mult) (r2D X.K mulD) := OpR.imp (op_mul.or op_mulW) fun x y H Q ⟨c, S, d, e, r, hr, hd, he, ho, q⟩ => by
  unfold mulD at ho
  split at ho
  · rename_i i j
    split at ho
    · rename_i hs
      cases ho; rw [hd.int, he.int]
      have q' := q c H _ (Nx.refl hr) (.int _)
      rw [Bool.or_eq_true, Bool.or_eq_true, decide_eq_true_eq] at hs
      rcases hs with (h | h) | h
      · exact .inl ⟨_, _, rfl, rfl, .inr (smallI_ok h), q'⟩
      · exact .inl ⟨_, _, rfl, rfl, .inl (smallI_ok h), q'⟩
      · exact .inr ⟨_, _, rfl, rfl, h, q'⟩
    · cases ho
  · cases ho
theorem o_fdiv : OpR X (binaryOp .FloorDiv) (r2D X.K fdivD) := OpR.imp op_fdivW fun x y H Q ⟨c, S, d, e, r, hr, hd, he, ho, q⟩ => by
  unfold fdivD at ho
  split at ho
  · split at ho
    · rename_i hs
      cases ho; rw [hd.int, he.int]; exact ⟨_, _, rfl, rfl, hs, q c H _ (Nx.refl hr) (.int _)⟩
    · cases ho
  · cases ho
theorem o_mod : OpR X (binaryOp .Mod) (r2D X.K modD) := OpR.imp op_mod fun x y H Q ⟨c, S, d, e, r, hr, hd, he, ho, q⟩ => by
  unfold modD at ho
  split at ho
  · split at ho
    · rename_i hs
      cases ho; rw [hd.int, he.int]; exact ⟨_, _, rfl, rfl, hs, q c H _ (Nx.refl hr) (.int _)⟩
    · cases ho
  · cases ho
theorem o_pow : OpR X (binaryOp .Pow) (r2D X.K powD) := OpR.imp op_pow fun x y H Q ⟨c, S, d, e, r, hr, hd, he, ho, q⟩ => by
  unfold powD at ho
  split at ho
  · split at ho
    · rename_i hs
      cases ho; rw [hd.int, he.int]; exact ⟨_, _, rfl, rfl, ⟨hs.1, hs.2.1, hs.2.2⟩, q c H _ (Nx.refl hr) (.int _)⟩
    · cases ho
  · cases ho
end
/-! ### comparisons -/
def eqB (a b : D) : Option Bool := match a, b with
  | .str x, .str y => some (x == y)
  | a, b => if SeqAt.shaped a && SeqAt.shaped b then some (PyData.eqv a b) else none
def eqD (a b : D) : Option D := (eqB a b).map .bool
def neD (a b : D) : Option D := (eqB a b).map fun k => .bool !k
def cmpD (p : Int → Int → Bool) : D → D → Option D
  | .int i, .int j => some (.bool (p i j))
  | _, _ => none
abbrev ltD := cmpD fun i j => decide (i < j)
abbrev leD := cmpD fun i j => decide (i ≤ j)
abbrev gtD := cmpD fun i j => decide (j < i)
abbrev geD := cmpD fun i j => decide (j ≤ i)
def isNo : D → Bool
  | .none => true
  | _ => false
def isD : D → D → Option D
  | x, .none => some (.bool (isNo x))
  | .bool a, .bool b => some (.bool (decide (a = b)))
  | _, _ => none
def isnD : D → D → Option D
  | x, .none => some (.bool (!isNo x))
  | .bool a, .bool b => some (.bool (!decide (a = b)))
  | _, _ => none
section
variable {K : PySem.W.Frag} {A : Addr → Prop} {H : Hp}
mutual
theorem Rep.dp : ∀ (d : D) (v : V), d.canLay0 = true → Rep A H d v → Dp K H v d
  | .none, _, _, h => by cases h; exact .non
  | .bool _, _, _, h => by cases h; exact .bl _
  | .int _, _, _, h => by cases h; exact .int _
  | .str _, _, _, h => by cases h; exact .str _
  | .tuple ds, _, s, h => by
    cases h with
    | tup h hl r => exact .tup (SqT.of h) (RepL.dp ds _ (by simpa [PyData.canLay0] using s) r)
  | .list ds, _, s, h => by
    cases h with
    | lst n h hl r => exact .lst (SqL.of h) (RepL.dp ds _ (by simpa [PyData.canLay0] using s) r)
  | .dict ds, _, s, h => by simp [PyData.canLay0] at s
theorem RepL.dp : ∀ (ds : List D) (vs : List V), PyData.canLayAll0 ds = true → RepL A H ds vs → DpAll K H vs ds
  | [], _, _, h => by cases h; exact .nil
  | d :: ds, _, s, h => by
    have s' : d.canLay0 = true ∧ PyData.canLayAll0 ds = true := by simpa [PyData.canLayAll0] using s
    cases h with
    | cons h1 h2 => exact .cons (Rep.dp d _ s'.1 h1) (RepL.dp ds _ s'.2 h2)
end
theorem LRep.dp {c : Cor Ω} {d : D} {u : V} (s : SeqAt.shaped d = true) (h : LRep c H d u) : Dp K H u d := by
  have s' : d.canLay0 = true := SeqAt.canLay_of_shaped s
  cases h with
  | of h => exact Rep.dp _ _ s' h
  | lst h1 h2 h3 => exact .lst (SqL.of h1) (RepL.dp _ _ (by simpa [PyData.canLay0] using s') h3)
  | dic h1 h2 h3 => simp [PyData.canLay0] at s'
end
section
variable {X : Cx}
theorem eqB_cases {a b : D} {k : Bool} (h : eqB a b = some k) : (∃ x y, a = .str x ∧ b = .str y ∧ k = (x == y)) ∨ (SeqAt.shaped a = true ∧ SeqAt.shaped b = true ∧ k = PyData.eqv a b) := by
  unfold eqB at h
  split at h
  · exact .inl ⟨_, _, rfl, rfl, (Option.some.inj h).symm⟩
  · split at h
    · rename_i hs
      rw [Bool.and_eq_true] at hs
      exact .inr ⟨hs.1, hs.2, (Option.some.inj h).symm⟩
    · cases h
theorem o_eq (hu : X.A.units + 64 < cLine) : OpR X (compareOp .Eq) (r2D X.K eqD) := OpR.imp (op_eq.or (op_eqD hu)) fun x y H Q ⟨c, S, d, e, r, hr, hd, he, ho, q⟩ => by
  obtain ⟨k, hk, rfl⟩ := Option.map_eq_some_iff.mp ho
  rcases eqB_cases hk with ⟨x, y, rfl, rfl, rfl⟩ | ⟨h1, h2, rfl⟩
  · rw [hd.str, he.str]; exact .inl ⟨rfl, by rw [dec_str]; exact q c H _ (Nx.refl hr) (.bl _)⟩
  · exact .inr ⟨d, e, hd.dp h1, he.dp h2, h1, h2, q c H _ (Nx.refl hr) (.bl _)⟩
theorem o_ne (hu : X.A.units + 64 < cLine) : OpR X (compareOp .NotEq) (r2D X.K neD) := OpR.imp (op_ne.or (op_neD hu)) fun x y H Q ⟨c, S, d, e, r, hr, hd, he, ho, q⟩ => by
  obtain ⟨k, hk, rfl⟩ := Option.map_eq_some_iff.mp ho
  rcases eqB_cases hk with ⟨x, y, rfl, rfl, rfl⟩ | ⟨h1, h2, rfl⟩
  · rw [hd.str, he.str]; exact .inl ⟨rfl, by rw [dec_str]; exact q c H _ (Nx.refl hr) (.bl _)⟩
  · exact .inr ⟨d, e, hd.dp h1, he.dp h2, h1, h2, q c H _ (Nx.refl hr) (.bl _)⟩
theorem cmpD_r {p : Int → Int → Bool} {x y : V} {H : Hp} {Q : VK} (h : r2D Ω (cmpD p) x y H Q) : rI0 (fun i j => .bl (p i j)) x y H Q := by
  obtain ⟨c, S, d, e, r, hr, hd, he, ho, q⟩ := h
  unfold cmpD at ho
  split at ho
  · cases ho; rw [hd.int, he.int]; exact ⟨_, _, rfl, rfl, q c H _ (Nx.refl hr) (.bl _)⟩
  · cases ho
theorem o_lt : OpR X (compareOp .Lt) (r2D X.K ltD) := OpR.imp op_lt fun _ _ _ _ h => cmpD_r h
theorem o_le : OpR X (compareOp .LtE) (r2D X.K leD) := OpR.imp op_le fun _ _ _ _ h => cmpD_r h
theorem o_gt : OpR X (compareOp .Gt) (r2D X.K gtD) := OpR.imp op_gt fun _ _ _ _ h => cmpD_r h
theorem o_ge : OpR X (compareOp .GtE) (r2D X.K geD) := OpR.imp op_ge fun _ _ _ _ h => cmpD_r h
theorem non_of {c : Cor Ω} {H : Hp} {d : D} {u : V} (h : LRep c H d u) : decide (u = .non) = isNo d := by
  cases h with
  | of h => cases h <;> rfl
  | lst _ _ _ => rfl
  | dic _ _ _ => rfl
theorem o_is : OpR X (compareOp .Is) (r2D X.K isD) := OpR.imp (op_isN.or op_is_bl) fun x y H Q ⟨c, S, d, e, r, hr, hd, he, ho, q⟩ => by
  unfold isD at ho
  split at ho
  · cases ho; rw [he.non]; exact .inl ⟨rfl, by rw [non_of hd]; exact q c H _ (Nx.refl hr) (.bl _)⟩
  · cases ho; rw [hd.bl, he.bl]; exact .inr ⟨_, _, rfl, rfl, q c H _ (Nx.refl hr) (.bl _)⟩
  · cases ho
theorem o_isn : OpR X (compareOp .IsNot) (r2D X.K isnD) := OpR.imp (op_notN.or op_isnot_bl) fun x y H Q ⟨c, S, d, e, r, hr, hd, he, ho, q⟩ => by
  unfold isnD at ho
  split at ho
  · cases ho; rw [he.non]; exact .inl ⟨rfl, by rw [non_of hd]; exact q c H _ (Nx.refl hr) (.bl _)⟩
  · cases ho; rw [hd.bl, he.bl]; exact .inr ⟨_, _, rfl, rfl, q c H _ (Nx.refl hr) (.bl _)⟩
  · cases ho
end
/-! ### in, index -/
def flatD : D → Bool
  | .none | .bool _ | .int _ | .str _ => true
  | _ => false
def flatEq : D → D → Bool
  | .none, .none => true
  | .bool a, .bool b => a == b
  | .bool a, .int b => (if a then 1 else 0) == b
  | .int a, .bool b => a == (if b then 1 else 0)
  | .int a, .int b => a == b
  | .str a, .str b => a == b
  | _, _ => false
def keyOf : D → Option Key
  | .int i => some (.inl i)
  | .str x => some (.inr x)
  | _ => none
/-- what a dict has at a key -/
def dget (kds : List (D × D)) (k : Key) : Option D := (kds.find? fun p => decide (keyOf p.1 = some k)).map (·.2)
def inB (x : D) : D → Option Bool
  | .list ys => if flatD x && ys.all flatD then some (ys.any fun y => flatEq y x) else none
  | .tuple ys => if flatD x && ys.all flatD then some (ys.any fun y => flatEq y x) else none
  | .dict kds => (keyOf x).map fun k => (dget kds k).isSome
  | .str z => match x with
    | .str ⟨⟨[c]⟩⟩ => some (decide (c ∈ z.cps.toList))
    | _ => none
  | _ => none
def inD (x y : D) : Option D := (inB x y).map .bool
def ninD (x y : D) : Option D := (inB x y).map fun k => .bool !k
section
variable {A : Addr → Prop} {H : Hp}
theorem keyOf_keyD (k : Key) : keyOf (keyD k) = some k := by cases k <;> rfl
theorem keyOf_eq {d : D} {k : Key} (h : keyOf d = some k) : d = keyD k := by
  unfold keyOf at h
  split at h <;> cases h <;> rfl
theorem rep_key {k : Key} {v : V} (h : Rep A H (keyD k) v) : v = kV k := by
  cases k <;> (cases h; rfl)
theorem rep_keyD (k : Key) : Rep A H (keyD k) (kV k) := by
  cases k with
  | inl i => exact .int i
  | inr x => exact .str x
theorem RepK.get (k : Key) : ∀ {kds : List (D × D)} {kvs : List (Key × V)}, RepK A H kds kvs → (∃ d v, dget kds k = some d ∧ valV kvs k = some v ∧ Rep A H d v) ∨ (dget kds k = none ∧ valV kvs k = none)
  | _, _, .nil => .inr ⟨rfl, rfl⟩
  | _, _, .cons (k := j) (d := d) (v := v) h r => by
    by_cases e : j = k
    · subst e
      exact .inl ⟨d, v, by simp [dget, List.find?_cons, keyOf_keyD], valV_pos rfl, h⟩
    · have e1 : ∀ ds, dget ((keyD j, d) :: ds) k = dget ds k := fun ds => by simp [dget, List.find?_cons, keyOf_keyD, e]
      rw [e1, valV_neg e]
      exact RepK.get k r
theorem flat_of {d : D} {v : V} (f : flatD d = true) (h : Rep A H d v) : flatV v = true := by
  cases h <;> first | rfl | cases f
theorem flatEq_of {d e : D} {v u : V} (f : flatD d = true) (g : flatD e = true) (h : Rep A H d v) (h' : Rep A H e u) : eqV v u = flatEq d e := by
  cases h <;> cases h' <;> first | rfl | cases f | cases g
theorem all_flat : ∀ {ds : List D} {vs : List V}, RepL A H ds vs → ds.all flatD = true → vs.all flatV = true
  | _, _, .nil, _ => rfl
  | _, _, .cons h r, f => by
    rw [List.all_cons, Bool.and_eq_true] at *
    exact ⟨flat_of f.1 h, all_flat r f.2⟩
theorem any_flat {x : D} {u : V} (fx : flatD x = true) (hx : Rep A H x u) : ∀ {ds : List D} {vs : List V}, RepL A H ds vs → ds.all flatD = true → inV u vs = ds.any fun y => flatEq y x
  | _, _, .nil, _ => rfl
  | _, _, .cons h r, f => by
    rw [List.all_cons, Bool.and_eq_true] at f
    have ih := any_flat fx hx r f.2
    unfold inV at *
    rw [List.any_cons, List.any_cons, ih, flatEq_of f.1 fx h hx]
theorem LRep.flat {c : Cor Ω} {d : D} {u : V} (f : flatD d = true) (h : LRep c H d u) : Rep c.A H d u := by
  cases h with
  | of h => exact h
  | lst _ _ _ => cases f
  | dic _ _ _ => cases f
end
section
variable {X : Cx}
theorem op_dIn (hu : X.A.units + 1 < cLine) : OpR X (compareOp .In) (fun y x H Q => ∃ a o, x = .ref a ∧ DGet H a y o ∧ Q (.bl o.isSome) H) := fun pins s σ H y x v u Q I ry rx ⟨a, o, e, g, q⟩ => by
  subst e
  obtain rfl : u = Value.ref a := rx
  exact d_in hu I g ry fun s' I' => ⟨.bl o.isSome, H, I', rfl, q⟩
theorem op_dNotIn (hu : X.A.units + 1 < cLine) : OpR X (compareOp .NotIn) (fun y x H Q => ∃ a o, x = .ref a ∧ DGet H a y o ∧ Q (.bl (!o.isSome)) H) := fun pins s σ H y x v u Q I ry rx ⟨a, o, e, g, q⟩ => by
  subst e
  obtain rfl : u = Value.ref a := rx
  exact d_notIn hu I g ry fun s' I' => ⟨.bl (!o.isSome), H, I', rfl, q⟩
theorem inB_cases {K : PySem.W.Frag} {c : Cor Ω} {H : Hp} {x y : D} {u v : V} {k : Bool} (h : inB x y = some k) (hx : LRep c H x u) (hy : LRep c H y v) :
    (∃ p xs, v = .ref p ∧ (SqL K H p xs ∨ SqT K H p xs) ∧ flatV u = true ∧ xs.all flatV = true ∧ inV u xs = k) ∨ (∃ a o, v = .ref a ∧ DGet H a u o ∧ o.isSome = k) ∨ (∃ cc z, u = .str ⟨#[cc]⟩ ∧ v = .str z ∧ decide (cc ∈ z.cps.toList) = k) := by
  unfold inB at h
  split at h
  · split at h
    · rename_i hf
      rw [Bool.and_eq_true] at hf
      cases h
      obtain ⟨a, vs, rfl, h1, h2, h3⟩ := hy.list
      exact .inl ⟨a, vs, rfl, .inl (SqL.of h1), flat_of hf.1 (hx.flat hf.1), all_flat h3 hf.2, any_flat hf.1 (hx.flat hf.1) h3 hf.2⟩
    · cases h
  · split at h
    · rename_i hf
      rw [Bool.and_eq_true] at hf
      cases h
      obtain ⟨a, vs, rfl, h1, h2, h3⟩ := hy.tup
      exact .inl ⟨a, vs, rfl, .inr (SqT.of h1), flat_of hf.1 (hx.flat hf.1), all_flat h3 hf.2, any_flat hf.1 (hx.flat hf.1) h3 hf.2⟩
    · cases h
  · obtain ⟨kk, h1, rfl⟩ := Option.map_eq_some_iff.mp h
    obtain ⟨a, vs, rfl, h2, h3, h4⟩ := hy.dict
    have e := keyOf_eq h1
    subst e
    have e2 : u = kV kk := rep_key (A := c.A) (H := H) (hx.flat (by cases kk <;> rfl))
    subst e2
    refine .inr (.inl ⟨a, valV vs kk, rfl, .inl ⟨vs, kk, h2, rfl, rfl⟩, ?_⟩)
    rcases h4.get kk with ⟨d, v, q1, q2, _⟩ | ⟨q1, q2⟩
    · rw [q1, q2]; rfl
    · rw [q1, q2]; rfl
  · split at h
    · cases h
      rw [hx.str, hy.str]
      exact .inr (.inr ⟨_, _, rfl, rfl, rfl⟩)
    · cases h
  · cases h
theorem o_in (hu : X.A.units + 1 < cLine) : OpR X (compareOp .In) (r2D X.K inD) := OpR.imp (op_in_seq.or ((op_dIn hu).or op_in_sign)) fun x y H Q ⟨c, S, d, e, r, hr, hd, he, ho, q⟩ => by
  obtain ⟨k, hk, rfl⟩ := Option.map_eq_some_iff.mp ho
  have q' := q c H _ (Nx.refl hr) (.bl _)
  rcases inB_cases (K := X.K) hk hd he with ⟨p, xs, h1, h2, h3, h4, h5⟩ | ⟨a, o, h1, h2, h3⟩ | ⟨cc, z, h1, h2, h3⟩
  · exact .inl ⟨p, xs, h1, h2, h3, h4, by simp only [Bool.false_eq_true, if_false]; rw [h5]; exact q'⟩
  · exact .inr (.inl ⟨a, o, h1, h2, by rw [h3]; exact q'⟩)
  · exact .inr (.inr ⟨cc, z, h1, h2, by rw [h3]; exact q'⟩)
theorem o_nin (hu : X.A.units + 1 < cLine) : OpR X (compareOp .NotIn) (r2D X.K ninD) := OpR.imp (op_notIn_seq.or ((op_dNotIn hu).or op_notIn_sign)) fun x y H Q ⟨c, S, d, e, r, hr, hd, he, ho, q⟩ => by
  obtain ⟨k, hk, rfl⟩ := Option.map_eq_some_iff.mp ho
  have q' := q c H _ (Nx.refl hr) (.bl _)
  rcases inB_cases (K := X.K) hk hd he with ⟨p, xs, h1, h2, h3, h4, h5⟩ | ⟨a, o, h1, h2, h3⟩ | ⟨cc, z, h1, h2, h3⟩
  · exact .inl ⟨p, xs, h1, h2, h3, h4, by simp only [if_true]; rw [h5]; exact q'⟩
  · exact .inr (.inl ⟨a, o, h1, h2, by rw [h3]; exact q'⟩)
  · exact .inr (.inr ⟨cc, z, h1, h2, by rw [h3]; exact q'⟩)
end
end DL

namespace DL
open PySem PySem.Spec PyProof.Rows L2
/-! ### index -/
def ixD : D → D → Option D
  | .list xs, .int i => atI xs i
  | .tuple xs, .int i => atI xs i
  | .str z, .int i => if z.length ≤ sizeLine then (atI z.cps.toList i).map fun c => .str ⟨#[c]⟩ else none
  | .dict kds, k => (keyOf k).bind (dget kds)
  | _, _ => none
def op2R (op : D → D → Option D) (v w : Val) (S : Sto) : R Val := ofO ((lookR S v).bind fun x => (look S w).bind fun y => op x y) S
def eIx (fa fb : Ex) : Ex := fun ρ S => (fa ρ S).bind fun v S1 => (fb ρ S1).bind fun w S2 => op2R ixD v w S2
def r2R (Ω : PySem.W.Frag) (op : D → D → Option D) : R2 := fun x y H Q => ∃ (c : Cor Ω) (S : Sto) (d e r : D), Rel c S H ∧ LRepR c H d x ∧ LRep c H e y ∧ op d e = some r ∧ ∀ c' H' u, Nx c S H c' S H' → Rep c'.A H' r u → Q u H'
theorem RepL.atI {A : Addr → Prop} {H : Hp} {ds : List D} {vs : List V} (r : RepL A H ds vs) {i : Int} {d : D} (h : L2.atI ds i = some d) : ∃ v, L2.atI vs i = some v ∧ Rep A H d v := by
  unfold L2.atI at *
  rw [← r.length]
  cases e : ixN ds.length i with
  | none => rw [e] at h; cases h
  | some j =>
    rw [e] at h
    obtain ⟨v, h1, h2⟩ := r.get (show ds[j]? = some d from h)
    exact ⟨v, h1, h2⟩
section
variable {X : Cx} {W : WX}
theorem op2R_r {mg : Str → Option Value} {op : D → D → Option D} {c : Cor Ω} {S : Sto} {H : Hp} {σ : L2.St} {v w : Val} {x y : V} {Q : VK} (hr : Rel c S H) (hv : VRep c H v x) (hw : VRep c H w y)
    (h : Aft mg W c S σ H (op2R op v w S) fun v c' _ H' => ∀ u, VRep c' H' v u → Q u H') : r2R Ω op x y H Q := by
  unfold op2R at h
  cases e1 : lookR S v with
  | none => rw [e1] at h; exact h.elim
  | some d =>
    cases e2 : look S w with
    | none => rw [e1, e2] at h; exact h.elim
    | some e =>
      cases e3 : op d e with
      | none => simp only [e1, e2, e3, Option.bind] at h; exact h.elim
      | some r =>
        simp only [e1, e2, e3, Option.bind] at h
        exact ⟨c, S, d, e, r, hr, lookR_rep hr hv e1, look_rep hr hw e2, e3, fun c' H' u x1 hu => h c' H' x1 u hu⟩
theorem ix_dict (hu : X.A.units + 1 < cLine) : IxR X (fun x y H Q => ∃ a v, x = .ref a ∧ DGet H a y (some v) ∧ Q v H) := by
  intro value slice pins s σ H x y v u Q I rx ry h hs
  obtain ⟨a, z, rfl, g, q⟩ := h
  obtain rfl : v = Value.ref a := rx
  exact tail_any (dict_typeIs I g) PySem.F.slot_dict_getitem.lookup (d_getItem hu I g ry fun w' s3 I3 rw' => ⟨z, H, I3, rw', q⟩) hs
theorem o_ix (hu : X.A.units + 1 < cLine) : IxR X (r2R X.K ixD) := IxR.imp (ix_list.or (ix_tup.or (ix_str.or (ix_dict hu)))) fun x y H Q ⟨c, S, d, e, r, hr, hd, he, ho, q⟩ => by
  unfold ixD at ho
  split at ho
  · obtain ⟨a, vs, rfl, h1, h2, h3⟩ := hd.list
    obtain ⟨v, h4, h5⟩ := h3.atI ho
    rw [he.int]
    exact .inl ⟨a, vs, _, v, rfl, rfl, h1, h4, q c H v (Nx.refl hr) h5⟩
  · obtain ⟨a, vs, rfl, h1, h2, h3⟩ := (hd.plain (fun _ z => by cases z)).tup
    obtain ⟨v, h4, h5⟩ := h3.atI ho
    rw [he.int]
    exact .inr (.inl ⟨a, vs, _, v, rfl, rfl, SqT.of h1, h4, q c H v (Nx.refl hr) h5⟩)
  · split at ho
    · rename_i hl
      obtain ⟨cc, h1, rfl⟩ := Option.map_eq_some_iff.mp ho
      rw [he.int, (hd.plain (fun _ z => by cases z)).str]
      exact .inr (.inr (.inl ⟨_, _, cc, rfl, rfl, hl, h1, q c H _ (Nx.refl hr) (.str _)⟩))
    · cases ho
  · obtain ⟨k, h1, h2⟩ := Option.bind_eq_some_iff.mp ho
    obtain ⟨a, vs, rfl, h3, h4, h5⟩ := (hd.plain (fun _ z => by cases z)).dict
    have e := keyOf_eq h1
    subst e
    have e2 : y = kV k := rep_key (A := c.A) (H := H) (he.flat (by cases k <;> rfl))
    subst e2
    rcases h5.get k with ⟨d, v, q1, q2, q3⟩ | ⟨q1, q2⟩
    · rw [q1] at h2; cases h2
      exact .inr (.inr (.inr ⟨a, v, rfl, .inl ⟨vs, k, h3, rfl, q2.symm⟩, q c H v (Nx.refl hr) q3⟩))
    · rw [q1] at h2; cases h2
  · cases ho
theorem se_ix (hu : X.A.units + 1 < cLine) {a b : Expr} {fa fb : Ex} {pos : Pos} (ha : SE X W a fa) (hb : SE X W b fb) (hs : PlainIx b) : SE X W (.Subscript a b pos) (eIx fa fb) :=
  PE.imp (pe_ix (o_ix hu) ha hb hs) fun σ H Q ⟨c, ρ, S, hr, he, q⟩ => two hr he q fun v w c2 S2 H2 x y x1 hv hw h => op2R_r x1.rel hv hw h
end
/-! ### slices -/
abbrev Po := Ev → Sto → R (Option Int)
def pNone : Po := fun _ S => .ok none S
def pSome (f : Ex) : Po := fun ρ S => (f ρ S).bind fun v S1 => match v with
  | .d (.int i) => .ok (some i) S1
  | _ => .bad
def tO (Ω : PySem.W.Frag) (mg : Str → Option Value) (W : WX) (f : Po) : TO := fun σ H Q => ∃ (c : Cor Ω) (ρ : Ev) (S : Sto), Rel c S H ∧ RepE c H ρ σ ∧ Aft mg W c S σ H (f ρ S) fun o _ _ H' => Q o H'
def cutD {α : Type} (xs : List α) (lo hi : Option Int) : List α := (xs.drop (HT.sIx xs.length 0 lo)).take (HT.sIx xs.length xs.length hi - HT.sIx xs.length 0 lo)
def slD (lo hi : Option Int) : D → Option D
  | .list xs => some (.list (cutD xs lo hi))
  | .tuple xs => some (.tuple (cutD xs lo hi))
  | .str z => if z.length ≤ sizeLine then some (.str (cutS z lo hi)) else none
  | _ => none
def eSl (fe : Ex) (fl fh : Po) : Ex := fun ρ S => (fe ρ S).bind fun v S1 => (fl ρ S1).bind fun l S2 => (fh ρ S2).bind fun h S3 => ofO ((lookR S3 v).bind (slD l h)) S3
section
variable {X : Cx} {W : WX}
abbrev SO (X : Cx) (W : WX) (e : Option Expr) (f : Po) : Prop := PO X e (tO X.K X.mg W f)
theorem so_none : SO X W none pNone := ⟨fun pins s σ H Q I h => po_none.run pins s σ H Q I (by obtain ⟨c, ρ, S, hr, he, q⟩ := h; exact q c H (Nx.refl hr))⟩
theorem so_some {e : Expr} {f : Ex} (h : SE X W e f) : SO X W (some e) (pSome f) := ⟨fun pins s σ H Q I hh => (po_some h).run pins s σ H Q I (by
  obtain ⟨c, ρ, S, hr, he, q⟩ := hh
  refine ⟨c, ρ, S, hr, he, (Aft.bind hr q).mono fun v c1 S1 H1 x1 h1 u hu => ?_⟩
  split at h1
  · cases hu; exact ⟨_, rfl, h1 c1 H1 (Nx.refl x1.rel)⟩
  · exact h1.elim)⟩
theorem RepL.cut {A : Addr → Prop} {H : Hp} {ds : List D} {vs : List V} (r : RepL A H ds vs) (lo hi : Option Int) : RepL A H (cutD ds lo hi) (cutV vs lo hi) := by
  unfold cutD cutV
  rw [r.length]
  exact (r.drop _).take _
theorem cut_all {α : Type} (xs : List α) {lo hi : Option Int} (h : HT.sIx xs.length 0 lo = 0 ∧ HT.sIx xs.length xs.length hi = xs.length) : cutD xs lo hi = xs := by
  unfold cutD
  rw [h.1, h.2]
  simp
theorem se_sl {e : Expr} {lo hi : Option Expr} {fe : Ex} {fl fh : Po} {p2 pos : Pos} (he : SE X W e fe) (hl : SO X W lo fl) (hh : SO X W hi fh) : SE X W (.Subscript e (.Slice lo hi none p2) pos) (eSl fe fl fh) :=
  PE.imp (pe_slice (sl_list.or (sl_tupA.or sl_str)) he hl hh) fun σ H Q ⟨c, ρ, S, hr, he, q⟩ => by
    refine ⟨c, ρ, S, hr, he, (Aft.bind hr q).mono fun v c1 S1 H1 x1 h1 u hu => ?_⟩
    refine ⟨c1, ρ, S1, x1.rel, he.keep hr x1, (Aft.bind x1.rel h1).mono fun l c2 S2 H2 x2 h2 => ?_⟩
    refine ⟨c2, ρ, S2, x2.rel, (he.keep hr x1).keep x1.rel x2, (Aft.bind x2.rel h2).mono fun h c3 S3 H3 x3 h3 => ?_⟩
    have hv : VRep c3 H3 v u := (hu.keep x1.rel x2).keep x2.rel x3
    have hr3 := x3.rel
    cases e1 : lookR S3 v with
    | none => rw [e1] at h3; exact h3.elim
    | some d =>
      have hd := lookR_rep hr3 hv e1
      cases e2 : slD l h d with
      | none => simp only [e1, e2, Option.bind] at h3; exact h3.elim
      | some r =>
        simp only [e1, e2, Option.bind] at h3
        have q' : ∀ c' H' u, Nx c3 S3 H3 c' S3 H' → Rep c'.A H' r u → Q u H' := fun c' H' u x4 hu => h3 c' H' x4 u hu
        unfold slD at e2
        split at e2
        · cases e2
          obtain ⟨a, vs, rfl, g1, g2, g3⟩ := hd.list
          exact .inl ⟨a, vs, rfl, g1, fun p hp => q' c3 _ _ (Nx.new hr3 hp) (Rep.newLst hr3 hp (g3.cut l h) (Nat.le_trans (cutV_length _ _ _) g2))⟩
        · cases e2
          obtain ⟨a, vs, rfl, g1, g2, g3⟩ := (hd.plain (fun _ z => by cases z)).tup
          refine .inr (.inl ⟨a, vs, rfl, SqT.of g1, fun hw => ?_, fun _ p hp => ?_⟩)
          · rw [← g3.length] at hw
            rw [cut_all _ hw] at q'
            exact q' c3 H3 _ (Nx.refl hr3) (.tup g1 g2 g3)
          · exact q' c3 _ _ (Nx.new hr3 hp) (Rep.newTup hr3 hp (g3.cut l h) (Nat.le_trans (cutV_length _ _ _) g2))
        · split at e2
          · rename_i hz
            cases e2
            rw [(hd.plain (fun _ z => by cases z)).str]
            exact .inr (.inr ⟨_, rfl, hz, q' c3 H3 _ (Nx.refl hr3) (.str _)⟩)
          · cases e2
        · cases e2
end
/-! ### argument lists, displays -/
def aNil : La := fun _ S => .ok [] S
def aCons (f : Ex) (g : La) : La := fun ρ S => (f ρ S).bind fun v S1 => (g ρ S1).bind fun vs S2 => .ok (v :: vs) S2
section
variable {X : Cx} {W : WX}
theorem sa_nil : SA X W [] aNil := PA.imp pa_nil fun σ H Q ⟨c, ρ, S, hr, he, q⟩ => q c H (Nx.refl hr) [] .nil
theorem sa_cons {e : Expr} {es : List Expr} {f : Ex} {g : La} (ha : SE X W e f) (hr : SA X W es g) (hs : starEach (e :: es) X.env = (false, eval e X.env) :: starEach es X.env := by rfl) : SA X W (e :: es) (aCons f g) :=
  PA.imp (pa_cons ha hr hs) fun σ H Q ⟨c, ρ, S, hr, he, q⟩ => by
    refine ⟨c, ρ, S, hr, he, (Aft.bind hr q).mono fun v c1 S1 H1 x1 h1 u hu => ?_⟩
    refine ⟨c1, ρ, S1, x1.rel, he.keep hr x1, (Aft.bind x1.rel h1).mono fun vs c2 S2 H2 x2 h2 us hus => ?_⟩
    exact h2 c2 H2 (Nx.refl x2.rel) (u :: us) (.cons (hu.keep x1.rel x2) hus)
/-- all are data -/
def allD : List Val → Option (List D)
  | [] => some []
  | .d x :: r => (allD r).map (x :: ·)
  | _ :: _ => none
theorem allD_rep {c : Cor Ω} {H : Hp} : ∀ {vs : List Val} {us : List V} {ds : List D}, VRepL c H vs us → allD vs = some ds → RepL c.A H ds us
  | _, _, _, .nil, e => by cases e; exact .nil
  | _, _, _, .cons (x := .d x) h r, e => by
    obtain ⟨es, h1, rfl⟩ := Option.map_eq_some_iff.mp (show (allD _).map (x :: ·) = some _ from e)
    exact .cons h (allD_rep r h1)
  | _, _, _, .cons (x := .loc _) h r, e => by cases e
  | _, _, _, .cons (x := .scr _) h r, e => by cases e
def mkSeq (mk : List D → D) (vs : List Val) (S : Sto) : R Val := match allD vs with
  | some ds => if ds.length ≤ 1000 then .ok (.d (mk ds)) S else .bad
  | none => .bad
def eTup (f : La) : Ex := fun ρ S => (f ρ S).bind (mkSeq .tuple)
def eLst (f : La) : Ex := fun ρ S => (f ρ S).bind (mkSeq .list)
theorem mkSeq_r {mg : Str → Option Value} {mk : List D → D} {vs : List Val} {us : List V} {c : Cor Ω} {S : Sto} {H : Hp} {σ : L2.St} {k : Val → Cor Ω → Sto → Hp → Prop} (hv : VRepL c H vs us) (h : Aft mg W c S σ H (mkSeq mk vs S) k) :
    ∃ ds, RepL c.A H ds us ∧ us.length ≤ sizeLine ∧ ∀ c' H', Nx c S H c' S H' → k (.d (mk ds)) c' S H' := by
  unfold mkSeq at h
  split at h
  · rename_i ds e
    split at h
    · rename_i hl
      have r := allD_rep hv e
      exact ⟨ds, r, by rw [← r.length, sizeLine_eq]; omega, fun c' H' x => h c' H' x⟩
    · exact h.elim
  · exact h.elim
theorem se_tup {es : List Expr} {f : La} {x1} {pos : Pos} (h : SA X W es f) : SE X W (.Tuple es x1 pos) (eTup f) := PE.imp (pe_tup h) fun σ H Q ⟨c, ρ, S, hr, he, q⟩ => by
  refine ⟨c, ρ, S, hr, he, (Aft.bind hr q).mono fun vs c1 S1 H1 x1 h1 us hus => ?_⟩
  obtain ⟨ds, r, hl, q⟩ := mkSeq_r hus h1
  exact ⟨hl, fun p hp => q c1 _ (Nx.new x1.rel hp) _ (Rep.newTup x1.rel hp r hl)⟩
theorem se_lst {es : List Expr} {f : La} {pos : Pos} (h : SA X W es f) : SE X W (.List es pos) (eLst f) := PE.imp (pe_lst h) fun σ H Q ⟨c, ρ, S, hr, he, q⟩ => by
  refine ⟨c, ρ, S, hr, he, (Aft.bind hr q).mono fun vs c1 S1 H1 x1 h1 us hus => ?_⟩
  obtain ⟨ds, r, hl, q⟩ := mkSeq_r hus h1
  exact ⟨hl, fun p hp => q c1 _ (Nx.new x1.rel hp) _ (Rep.newLst x1.rel hp r hl)⟩
end
/-! ### truth, tests -/
def truthD : D → Option Bool
  | .none => some false
  | .bool b => some b
  | .int i => some (i != 0)
  | .str x => if x.length ≤ sizeLine then some ((x.length : Int) != 0) else none
  | .list xs => some (!xs.isEmpty)
  | .tuple xs => some (!xs.isEmpty)
  | .dict _ => none
def truV (v : Val) (S : Sto) : R Bool := match (look S v).bind truthD with
  | some b => .ok b S
  | none => .bad
def tTru (f : Ex) : Te := fun ρ S => (f ρ S).bind truV
def tNotE (f : Te) : Te := fun ρ S => (f ρ S).bind fun b S1 => .ok (!b) S1
def tAndE (f g : Te) : Te := fun ρ S => (f ρ S).bind fun b S1 => match b with
  | true => g ρ S1
  | false => .ok false S1
def tOrE (f g : Te) : Te := fun ρ S => (f ρ S).bind fun b S1 => match b with
  | true => .ok true S1
  | false => g ρ S1
def ofB (f : Te) : Ex := fun ρ S => (f ρ S).bind fun b S1 => .ok (.d (.bool b)) S1
def eAnd (f g : Ex) : Ex := fun ρ S => (f ρ S).bind fun v S1 => match v with
  | .d (.bool true) => g ρ S1
  | .d (.bool false) => .ok (.d (.bool false)) S1
  | _ => .bad
def eOr (f g : Ex) : Ex := fun ρ S => (f ρ S).bind fun v S1 => match v with
  | .d (.bool true) => .ok (.d (.bool true)) S1
  | .d (.bool false) => g ρ S1
  | _ => .bad
def eNot (f : Ex) : Ex := fun ρ S => (f ρ S).bind fun v S1 => match v with
  | .d (.bool b) => .ok (.d (.bool (!b))) S1
  | _ => .bad
def eIf (t : Te) (f g : Ex) : Ex := fun ρ S => (t ρ S).bind fun b S1 => match b with
  | true => f ρ S1
  | false => g ρ S1
def eNeg (f : Ex) : Ex := fun ρ S => (f ρ S).bind fun v S1 => match v with
  | .d (.int i) => .ok (.d (.int (-i))) S1
  | _ => .bad
section
variable {X : Cx} {W : WX} {a b : Expr} {pos : Pos} {rest : List Expr}
theorem isEmpty_len {α β : Type} {xs : List α} {ys : List β} (h : xs.length = ys.length) : xs.isEmpty = ys.isEmpty := by
  cases xs <;> cases ys <;> first | rfl | simp at h
theorem truthD_ok {K : PySem.W.Frag} {c : Cor Ω} {H : Hp} {d : D} {u : V} {k : Bool} (h : LRep c H d u) (e : truthD d = some k) : TruV K u H k := by
  unfold truthD at e
  split at e
  · rw [h.non]; exact (Option.some.inj e).symm
  · rw [h.bl]; exact (Option.some.inj e).symm
  · rw [h.int]; exact (Option.some.inj e).symm
  · split at e
    · rename_i hl; rw [h.str]; exact ⟨hl, (Option.some.inj e).symm⟩
    · cases e
  · obtain ⟨a, vs, rfl, h1, h2, h3⟩ := h.list
    exact .inl ⟨vs, SqL.of h1, by rw [← isEmpty_len h3.length]; exact (Option.some.inj e).symm⟩
  · obtain ⟨a, vs, rfl, h1, h2, h3⟩ := h.tup
    exact .inr (.inl ⟨vs, SqT.of h1, by rw [← isEmpty_len h3.length]; exact (Option.some.inj e).symm⟩)
  · cases e
theorem st_tru {f : Ex} (h : SE X W a f) (he : ∀ whole, isTrue a X.env whole = (do let v ← whole; standAt a.pos; holding [v] (truthy v)) := by intro _; rfl) : ST X W a (tTru f) :=
  PT.imp (pt_truth h he) fun σ H Q ⟨c, ρ, S, hr, he, q⟩ => by
    refine ⟨c, ρ, S, hr, he, (Aft.bind hr q).mono fun v c1 S1 H1 x1 h1 u hu => ?_⟩
    unfold truV at h1
    split at h1
    · rename_i b e
      obtain ⟨d, e1, e2⟩ := Option.bind_eq_some_iff.mp e
      exact ⟨b, truthD_ok (look_rep x1.rel hu e1) e2, h1 c1 H1 (Nx.refl x1.rel)⟩
    · exact h1.elim
theorem st_not {f : Te} (h : ST X W a f) : ST X W (.UnaryOp .Not a pos) (tNotE f) := PT.imp (pt_not h) fun σ H Q ⟨c, ρ, S, hr, he, q⟩ =>
  ⟨c, ρ, S, hr, he, (Aft.bind hr q).mono fun v c1 S1 H1 x1 h1 => h1 c1 H1 (Nx.refl x1.rel)⟩
theorem sw_and1 {f : Te} (h : ST X W a f) : SW X W (.BoolOp .And [a] pos) f := pw_and1 h
theorem sw_or1 {f : Te} (h : ST X W a f) : SW X W (.BoolOp .Or [a] pos) f := pw_or1 h
theorem sw_and {f g : Te} (h : ST X W a f) (h' : SW X W (.BoolOp .And (b :: rest) pos) g) : SW X W (.BoolOp .And (a :: b :: rest) pos) (tAndE f g) := PW.imp (pw_and h h') fun σ H Q ⟨c, ρ, S, hr, he, q⟩ => by
  refine ⟨c, ρ, S, hr, he, (Aft.bind hr q).mono fun v c1 S1 H1 x1 h1 => ?_⟩
  cases v with
  | true => exact iteT ⟨c1, ρ, S1, x1.rel, he.keep hr x1, h1⟩
  | false => exact iteF (h1 c1 H1 (Nx.refl x1.rel))
theorem sw_or {f g : Te} (h : ST X W a f) (h' : SW X W (.BoolOp .Or (b :: rest) pos) g) : SW X W (.BoolOp .Or (a :: b :: rest) pos) (tOrE f g) := PW.imp (pw_or h h') fun σ H Q ⟨c, ρ, S, hr, he, q⟩ => by
  refine ⟨c, ρ, S, hr, he, (Aft.bind hr q).mono fun v c1 S1 H1 x1 h1 => ?_⟩
  cases v with
  | true => exact iteT (h1 c1 H1 (Nx.refl x1.rel))
  | false => exact iteF ⟨c1, ρ, S1, x1.rel, he.keep hr x1, h1⟩
theorem se_one {op} {f : Ex} (h : SE X W a f) : SE X W (.BoolOp op [a] pos) f := pe_one h
theorem se_and {f g : Ex} (h : SE X W a f) (h' : SE X W (.BoolOp .And (b :: rest) pos) g) : SE X W (.BoolOp .And (a :: b :: rest) pos) (eAnd f g) := PE.imp (pe_and h h') fun σ H Q ⟨c, ρ, S, hr, he, q⟩ => by
  refine ⟨c, ρ, S, hr, he, (Aft.bind hr q).mono fun v c1 S1 H1 x1 h1 u hu => ?_⟩
  split at h1
  · cases hu; exact ⟨true, rfl, iteT ⟨c1, ρ, S1, x1.rel, he.keep hr x1, h1⟩⟩
  · cases hu; exact ⟨false, rfl, iteF (h1 c1 H1 (Nx.refl x1.rel) _ (.bl _))⟩
  · exact h1.elim
theorem se_or {f g : Ex} (h : SE X W a f) (h' : SE X W (.BoolOp .Or (b :: rest) pos) g) : SE X W (.BoolOp .Or (a :: b :: rest) pos) (eOr f g) := PE.imp (pe_or h h') fun σ H Q ⟨c, ρ, S, hr, he, q⟩ => by
  refine ⟨c, ρ, S, hr, he, (Aft.bind hr q).mono fun v c1 S1 H1 x1 h1 u hu => ?_⟩
  split at h1
  · cases hu; exact ⟨true, rfl, iteT (h1 c1 H1 (Nx.refl x1.rel) _ (.bl _))⟩
  · cases hu; exact ⟨false, rfl, iteF ⟨c1, ρ, S1, x1.rel, he.keep hr x1, h1⟩⟩
  · exact h1.elim
theorem se_not {f : Ex} (h : SE X W a f) : SE X W (.UnaryOp .Not a pos) (eNot f) := PE.imp (pe_not h) fun σ H Q ⟨c, ρ, S, hr, he, q⟩ => by
  refine ⟨c, ρ, S, hr, he, (Aft.bind hr q).mono fun v c1 S1 H1 x1 h1 u hu => ?_⟩
  split at h1
  · cases hu; exact ⟨_, rfl, h1 c1 H1 (Nx.refl x1.rel) _ (.bl _)⟩
  · exact h1.elim
theorem se_if {t : Te} {f g : Ex} {cc : Expr} (ht : ST X W cc t) (hf : SE X W a f) (hg : SE X W b g) : SE X W (.IfExp cc a b pos) (eIf t f g) := PE.imp (pe_ifExp ht hf hg) fun σ H Q ⟨c, ρ, S, hr, he, q⟩ => by
  refine ⟨c, ρ, S, hr, he, (Aft.bind hr q).mono fun v c1 S1 H1 x1 h1 => ?_⟩
  cases v with
  | true => exact iteT ⟨c1, ρ, S1, x1.rel, he.keep hr x1, h1⟩
  | false => exact iteF ⟨c1, ρ, S1, x1.rel, he.keep hr x1, h1⟩
theorem se_neg {f : Ex} (h : SE X W a f) : SE X W (.UnaryOp .USub a pos) (eNeg f) := PE.imp (pe_un un_neg h) fun σ H Q ⟨c, ρ, S, hr, he, q⟩ => by
  refine ⟨c, ρ, S, hr, he, (Aft.bind hr q).mono fun v c1 S1 H1 x1 h1 u hu => ?_⟩
  split at h1
  · cases hu; exact ⟨_, rfl, h1 c1 H1 (Nx.refl x1.rel) _ (.int _)⟩
  · exact h1.elim
/-- a < b < c -/
def eChain (op op' : D → D → Option D) (fa fb fc : Ex) : Ex := fun ρ S => (fa ρ S).bind fun v S1 => (fb ρ S1).bind fun w S2 => (op2 op v w S2).bind fun z S3 => match z with
  | .d (.bool true) => (fc ρ S3).bind fun x S4 => op2 op' w x S4
  | .d (.bool false) => .ok (.d (.bool false)) S3
  | _ => .bad
theorem chain_r {mg : Str → Option Value} {op op' : D → D → Option D} {fa fb fc : Ex} {σ : L2.St} {H : Hp} {Q : VK} (h : tE Ω mg W (eChain op op' fa fb fc) σ H Q) : tChain (r2D Ω op) (r2D Ω op') (tE Ω mg W fa) (tE Ω mg W fb) (tE Ω mg W fc) σ H Q := by
  obtain ⟨c, ρ, S, hr, he, q⟩ := h
  refine two hr he q fun v w c2 S2 H2 x y x1 hv hw h => ?_
  refine op2_r x1.rel hv hw ((Aft.bind x1.rel h).mono fun z c3 S3 H3 x3 h3 u hu => ?_)
  split at h3
  · cases hu
    refine ⟨true, rfl, iteT ⟨c3, ρ, S3, x3.rel, (he.keep hr x1).keep x1.rel x3, (Aft.bind x3.rel h3).mono fun z4 c4 S4 H4 x4 h4 u4 hu4 => ?_⟩⟩
    exact op2_r x4.rel ((hw.keep x1.rel x3).keep x3.rel x4) hu4 h4
  · cases hu; exact ⟨false, rfl, iteF (h3 c3 H3 (Nx.refl x3.rel) _ (.bl _))⟩
  · exact h3.elim
theorem se_chain {o o' : CmpOp} {op op' : D → D → Option D} {cc : Expr} {fa fb fc : Ex} (h1 : OpR X (compareOp o) (r2D X.K op)) (h2 : OpR X (compareOp o') (r2D X.K op')) (ha : SE X W a fa) (hb : SE X W b fb) (hc : SE X W cc fc)
    (hm : lastMarks [o, o'] [b, cc] = false := by with_unfolding_all rfl) : SE X W (.Compare a [o, o'] [b, cc] pos) (eChain op op' fa fb fc) := PE.imp (pe_chain h1 h2 ha hb hc hm) fun σ H Q h => chain_r h
theorem tOf_r {mg : Str → Option Value} {f : Ex} {σ : L2.St} {H : Hp} {Q : Bool → Hp → Prop} (h : tT Ω mg W (tOf f) σ H Q) : tE Ω mg W f σ H fun x H' => ∃ k, x = .bl k ∧ Q k H' := by
  obtain ⟨c, ρ, S, hr, he, q⟩ := h
  exact ⟨c, ρ, S, hr, he, (Aft.bind hr q).mono fun v c1 S1 H1 x1 h1 u hu => let ⟨b, _, e, q⟩ := asB_r x1.rel hu h1; ⟨b, e, q⟩⟩
theorem st_chain {o o' : CmpOp} {op op' : D → D → Option D} {cc : Expr} {fa fb fc : Ex} (h1 : OpR X (compareOp o) (r2D X.K op)) (h2 : OpR X (compareOp o') (r2D X.K op')) (ha : SE X W a fa) (hb : SE X W b fb) (hc : SE X W cc fc)
    (hm : lastMarks [o, o'] [b, cc] = false := by with_unfolding_all rfl) : ST X W (.Compare a [o, o'] [b, cc] pos) (tOf (eChain op op' fa fb fc)) := PT.imp (pt_chain h1 h2 ha hb hc hm) fun σ H Q h => chain_r (tOf_r h)
end
end DL

namespace DL
open PySem PySem.Spec PyProof.Rows L2
/-! ### calls of built-ins -/
def lookAll (S : Sto) : List Val → Option (List D)
  | [] => some []
  | v :: r => (lookR S v).bind fun x => (lookAll S r).map (x :: ·)
inductive LRL (c : Cor Ω) (H : Hp) : List D → List V → Prop
  | nil : LRL c H [] []
  | cons {d : D} {v : V} {ds : List D} {vs : List V} : LRepR c H d v → LRL c H ds vs → LRL c H (d :: ds) (v :: vs)
theorem lookAll_rep {c : Cor Ω} {S : Sto} {H : Hp} (r : Rel c S H) : ∀ {vs : List Val} {us : List V} {ds : List D}, VRepL c H vs us → lookAll S vs = some ds → LRL c H ds us
  | _, _, _, .nil, e => by cases e; exact .nil
  | _, _, _, .cons h t, e => by
    obtain ⟨x, e1, e2⟩ := Option.bind_eq_some_iff.mp (show (lookR S _).bind _ = some _ from e)
    obtain ⟨es, e3, rfl⟩ := Option.map_eq_some_iff.mp e2
    exact .cons (lookR_rep r h e1) (lookAll_rep r t e3)
theorem LRL.one {c : Cor Ω} {H : Hp} {d : D} {us : List V} (h : LRL c H [d] us) : ∃ u, us = [u] ∧ LRepR c H d u := by
  cases h with | cons h t => cases t; exact ⟨_, rfl, h⟩
theorem LRL.two {c : Cor Ω} {H : Hp} {d e : D} {us : List V} (h : LRL c H [d, e] us) : ∃ u v, us = [u, v] ∧ LRepR c H d u ∧ LRepR c H e v := by
  cases h with | cons h t => cases t with | cons h' t => cases t; exact ⟨_, _, rfl, h, h'⟩
theorem LRepR.int {c : Cor Ω} {H : Hp} {i : Int} {u : V} (h : LRepR c H (.int i) u) : u = .int i := (h.plain (fun _ z => by cases z)).int
theorem LRepR.bl {c : Cor Ω} {H : Hp} {i : Bool} {u : V} (h : LRepR c H (.bool i) u) : u = .bl i := (h.plain (fun _ z => by cases z)).bl
theorem LRepR.str {c : Cor Ω} {H : Hp} {i : Str} {u : V} (h : LRepR c H (.str i) u) : u = .str i := (h.plain (fun _ z => by cases z)).str
def eCB (op : List D → Option D) (f : La) : Ex := fun ρ S => (f ρ S).bind fun vs S1 => ofO ((lookAll S1 vs).bind op) S1
def rND (Ω : PySem.W.Frag) (op : List D → Option D) : List V → Hp → VK → Prop := fun xs H Q => ∃ (c : Cor Ω) (S : Sto) (ds : List D) (r : D), Rel c S H ∧ LRL c H ds xs ∧ op ds = some r ∧ ∀ c' H' u, Nx c S H c' S H' → Rep c'.A H' r u → Q u H'
section
variable {X : Cx} {W : WX}
theorem eCB_r {mg : Str → Option Value} {op : List D → Option D} {f : La} {σ : L2.St} {H : Hp} {Q : VK} (h : tE Ω mg W (eCB op f) σ H Q) : tCB (rND Ω op) (tA Ω mg W f) σ H Q := by
  obtain ⟨c, ρ, S, hr, he, q⟩ := h
  refine ⟨c, ρ, S, hr, he, (Aft.bind hr q).mono fun vs c1 S1 H1 x1 h1 us hus => ?_⟩
  cases e1 : lookAll S1 vs with
  | none => rw [e1] at h1; exact h1.elim
  | some ds =>
    cases e2 : op ds with
    | none => simp only [e1, e2, Option.bind] at h1; exact h1.elim
    | some r =>
      simp only [e1, e2, Option.bind] at h1
      exact ⟨c1, S1, ds, r, x1.rel, lookAll_rep x1.rel hus e1, e2, fun c' H' u x2 hu => h1 c' H' x2 u hu⟩
theorem se_callB {id : String} {op : List D → Option D} {x : Str} {e : Expr} {es : List Expr} {f : La} {p pos : Pos} (hc : CallR X (.builtin id) (rND X.K op)) (hg : Gl X x) (hm : X.mg x = none) (hv : bootBuiltins x = some (.builtin id)) (ha : SA X W (e :: es) f)
    (hn : x ≠ "__name__" := by decide) (hdb : (x == ("__debug__" : Str)) = false := by decide) (he : starEach (e :: es) X.env = (false, eval e X.env) :: starEach es X.env := by rfl) (hpl : (backTo pos (starEach es X.env)).any (·.1) = false := by rfl) :
    SE X W (.Call (.Name x p) (e :: es) [] pos) (eCB op f) := PE.imp (pe_callB hc hg hm hv ha hn hdb he hpl) fun σ H Q h => eCB_r h
theorem se_callTy {T : String} {op : List D → Option D} {x : Str} {e : Expr} {es : List Expr} {f : La} {p pos : Pos} (hc : CallR X (.type T) (rND X.K op)) (hg : Gl X x) (hm : X.mg x = none) (hv : bootBuiltins x = some (.type T)) (ha : SA X W (e :: es) f)
    (hn : x ≠ "__name__" := by decide) (hdb : (x == ("__debug__" : Str)) = false := by decide) (he : starEach (e :: es) X.env = (false, eval e X.env) :: starEach es X.env := by rfl) (hpl : (backTo pos (starEach es X.env)).any (·.1) = false := by rfl) :
    SE X W (.Call (.Name x p) (e :: es) [] pos) (eCB op f) := PE.imp (pe_callTy hc hg hm hv ha hn hdb he hpl) fun σ H Q h => eCB_r h
end
/-! ### the built-ins -/
def intsOf : List D → Option (List Int)
  | [] => some []
  | .int i :: r => (intsOf r).map (i :: ·)
  | _ :: _ => none
def blsOf : List D → Option (List Bool)
  | [] => some []
  | .bool i :: r => (blsOf r).map (i :: ·)
  | _ :: _ => none
def lenD : List D → Option D
  | [.list xs] => some (.int xs.length)
  | [.tuple xs] => some (.int xs.length)
  | [.dict xs] => some (.int xs.length)
  | [.str x] => if x.length ≤ sizeLine then some (.int x.length) else none
  | _ => none
def absD : List D → Option D
  | [.int i] => some (.int (if i < 0 then -i else i))
  | _ => none
def max2D : List D → Option D
  | [.int i, .int j] => some (.int (if j > i then j else i))
  | _ => none
def min2D : List D → Option D
  | [.int i, .int j] => some (.int (if j < i then j else i))
  | _ => none
def sumD : List D → Option D
  | [.list xs] => (intsOf xs).map fun ns => .int ns.sum
  | _ => none
def allBD : List D → Option D
  | [.list xs] => (blsOf xs).map fun ns => .bool (ns.all id)
  | _ => none
def anyBD : List D → Option D
  | [.list xs] => (blsOf xs).map fun ns => .bool (ns.any id)
  | _ => none
def intD : List D → Option D
  | [.int i] => some (.int i)
  | [.bool b] => some (.int (if b then 1 else 0))
  | _ => none
def strD : List D → Option D
  | [.int i] => if i.natAbs.log2 < 1920 then some (.str (toString i)) else none
  | _ => none
def divmodD : List D → Option D
  | [.int i, .int j] => if 0 < j ∧ j < 1073741824 then some (.tuple [.int (i / j), .int (i % j)]) else none
  | _ => none
def tupleD : List D → Option D
  | [.list xs] => some (.tuple xs)
  | [.tuple xs] => some (.tuple xs)
  | _ => none
def listD : List D → Option D
  | [.list xs] => some (.list xs)
  | [.tuple xs] => some (.list xs)
  | _ => none
section
variable {A : Addr → Prop} {H : Hp}
theorem intsOf_rep : ∀ {ds : List D} {vs : List V} {ns : List Int}, RepL A H ds vs → intsOf ds = some ns → vs = ns.map V.int
  | _, _, _, .nil, e => by cases e; rfl
  | _, _, _, .cons (d := .int i) h r, e => by
    obtain ⟨es, h1, rfl⟩ := Option.map_eq_some_iff.mp (show (intsOf _).map (i :: ·) = some _ from e)
    cases h
    rw [intsOf_rep r h1]; rfl
  | _, _, _, .cons (d := .none) h r, e => by cases e
  | _, _, _, .cons (d := .bool _) h r, e => by cases e
  | _, _, _, .cons (d := .str _) h r, e => by cases e
  | _, _, _, .cons (d := .list _) h r, e => by cases e
  | _, _, _, .cons (d := .tuple _) h r, e => by cases e
  | _, _, _, .cons (d := .dict _) h r, e => by cases e
theorem blsOf_rep : ∀ {ds : List D} {vs : List V} {ns : List Bool}, RepL A H ds vs → blsOf ds = some ns → vs = ns.map V.bl
  | _, _, _, .nil, e => by cases e; rfl
  | _, _, _, .cons (d := .bool i) h r, e => by
    obtain ⟨es, h1, rfl⟩ := Option.map_eq_some_iff.mp (show (blsOf _).map (i :: ·) = some _ from e)
    cases h
    rw [blsOf_rep r h1]; rfl
  | _, _, _, .cons (d := .none) h r, e => by cases e
  | _, _, _, .cons (d := .int _) h r, e => by cases e
  | _, _, _, .cons (d := .str _) h r, e => by cases e
  | _, _, _, .cons (d := .list _) h r, e => by cases e
  | _, _, _, .cons (d := .tuple _) h r, e => by cases e
  | _, _, _, .cons (d := .dict _) h r, e => by cases e
theorem RepK.length : ∀ {kds : List (D × D)} {kvs : List (Key × V)}, RepK A H kds kvs → kds.length = kvs.length
  | _, _, .nil => rfl
  | _, _, .cons _ r => by rw [List.length_cons, List.length_cons, RepK.length r]
end
section
variable {X : Cx}
theorem call_lenR : CallR X (.builtin "len") (fun xs H Q => ∃ a kvs, xs = [V.ref a] ∧ Rd H a (.dK kvs) ∧ Q (.int kvs.length) H) := by
  intro pins s σ H xs us Q I r h
  obtain ⟨a, kvs, rfl, ha, q⟩ := h
  obtain ⟨u, rfl, ru⟩ := vals1 r
  cases ru
  exact d_len I ha fun t s' I' => ⟨.int kvs.length, H, I', ⟨t, rfl⟩, q⟩
theorem b_len : CallR X (.builtin "len") (rND X.K lenD) := CallR.imp (call_len.or call_lenR) fun xs H Q ⟨c, S, ds, r, hr, hd, ho, q⟩ => by
  unfold lenD at ho
  split at ho
  · cases ho
    obtain ⟨u, rfl, h⟩ := hd.one
    obtain ⟨a, vs, rfl, h1, h2, h3⟩ := h.list
    exact .inl ⟨_, vs.length, rfl, .inl ⟨vs, h1, rfl⟩, by rw [← h3.length]; exact q c H _ (Nx.refl hr) (.int _)⟩
  · cases ho
    obtain ⟨u, rfl, h⟩ := hd.one
    obtain ⟨a, vs, rfl, h1, h2, h3⟩ := (h.plain (fun _ z => by cases z)).tup
    exact .inl ⟨_, vs.length, rfl, .inr ⟨vs, SqT.of h1, rfl⟩, by rw [← h3.length]; exact q c H _ (Nx.refl hr) (.int _)⟩
  · cases ho
    obtain ⟨u, rfl, h⟩ := hd.one
    obtain ⟨a, vs, rfl, h1, h2, h3⟩ := (h.plain (fun _ z => by cases z)).dict
    exact .inr ⟨_, vs, rfl, h1, by rw [← h3.length]; exact q c H _ (Nx.refl hr) (.int _)⟩
  · split at ho
    · rename_i hl
      cases ho
      obtain ⟨u, rfl, h⟩ := hd.one
      rw [h.str]
      exact .inl ⟨_, _, rfl, ⟨hl, rfl⟩, q c H _ (Nx.refl hr) (.int _)⟩
    · cases ho
  · cases ho
theorem b_abs : CallR X (.builtin "abs") (rND X.K absD) := CallR.imp call_abs fun xs H Q ⟨c, S, ds, r, hr, hd, ho, q⟩ => by
  unfold absD at ho
  split at ho
  · cases ho
    obtain ⟨u, rfl, h⟩ := hd.one
    rw [h.int]; exact ⟨_, rfl, q c H _ (Nx.refl hr) (.int _)⟩
  · cases ho
theorem b_max2 (hc : X.calm = true) : CallR X (.builtin "max") (rND X.K max2D) := CallR.imp (call_max2 hc) fun xs H Q ⟨c, S, ds, r, hr, hd, ho, q⟩ => by
  unfold max2D at ho
  split at ho
  · cases ho
    obtain ⟨u, v, rfl, h, h'⟩ := hd.two
    rw [h.int, h'.int]; exact ⟨_, _, rfl, q c H _ (Nx.refl hr) (.int _)⟩
  · cases ho
theorem b_min2 (hc : X.calm = true) : CallR X (.builtin "min") (rND X.K min2D) := CallR.imp (call_min2 hc) fun xs H Q ⟨c, S, ds, r, hr, hd, ho, q⟩ => by
  unfold min2D at ho
  split at ho
  · cases ho
    obtain ⟨u, v, rfl, h, h'⟩ := hd.two
    rw [h.int, h'.int]; exact ⟨_, _, rfl, q c H _ (Nx.refl hr) (.int _)⟩
  · cases ho
theorem b_sum (hc : X.calm = true) : CallR X (.builtin "sum") (rND X.K sumD) := CallR.imp (cr_sum hc) fun xs H Q ⟨c, S, ds, r, hr, hd, ho, q⟩ => by
  unfold sumD at ho
  split at ho
  · obtain ⟨ns, h1, rfl⟩ := Option.map_eq_some_iff.mp ho
    obtain ⟨u, rfl, h⟩ := hd.one
    obtain ⟨a, vs, rfl, h2, h3, h4⟩ := h.list
    rw [intsOf_rep h4 h1] at h2
    exact ⟨_, ns, rfl, h2, q c H _ (Nx.refl hr) (.int _)⟩
  · cases ho
theorem b_all (hc : X.calm = true) : CallR X (.builtin "all") (rND X.K allBD) := CallR.imp (cr_all hc) fun xs H Q ⟨c, S, ds, r, hr, hd, ho, q⟩ => by
  unfold allBD at ho
  split at ho
  · obtain ⟨ns, h1, rfl⟩ := Option.map_eq_some_iff.mp ho
    obtain ⟨u, rfl, h⟩ := hd.one
    obtain ⟨a, vs, rfl, h2, h3, h4⟩ := h.list
    rw [blsOf_rep h4 h1] at h2
    exact ⟨_, ns, rfl, h2, q c H _ (Nx.refl hr) (.bl _)⟩
  · cases ho
theorem b_any (hc : X.calm = true) : CallR X (.builtin "any") (rND X.K anyBD) := CallR.imp (cr_any hc) fun xs H Q ⟨c, S, ds, r, hr, hd, ho, q⟩ => by
  unfold anyBD at ho
  split at ho
  · obtain ⟨ns, h1, rfl⟩ := Option.map_eq_some_iff.mp ho
    obtain ⟨u, rfl, h⟩ := hd.one
    obtain ⟨a, vs, rfl, h2, h3, h4⟩ := h.list
    rw [blsOf_rep h4 h1] at h2
    exact ⟨_, ns, rfl, h2, q c H _ (Nx.refl hr) (.bl _)⟩
  · cases ho
theorem b_int : CallR X (.type "int") (rND X.K intD) := CallR.imp call_int1 fun xs H Q ⟨c, S, ds, r, hr, hd, ho, q⟩ => by
  unfold intD at ho
  split at ho
  · cases ho
    obtain ⟨u, rfl, h⟩ := hd.one
    rw [h.int]; exact .inl ⟨_, rfl, q c H _ (Nx.refl hr) (.int _)⟩
  · cases ho
    obtain ⟨u, rfl, h⟩ := hd.one
    rw [h.bl]; exact .inr ⟨_, rfl, q c H _ (Nx.refl hr) (.int _)⟩
  · cases ho
theorem b_str : CallR X (.type "str") (rND X.K strD) := CallR.imp call_str_int fun xs H Q ⟨c, S, ds, r, hr, hd, ho, q⟩ => by
  unfold strD at ho
  split at ho
  · split at ho
    · rename_i hl
      cases ho
      obtain ⟨u, rfl, h⟩ := hd.one
      rw [h.int]; exact ⟨_, rfl, hl, q c H _ (Nx.refl hr) (.str _)⟩
    · cases ho
  · cases ho
theorem b_divmod : CallR X (.builtin "divmod") (rND X.K divmodD) := CallR.imp call_divmod fun xs H Q ⟨c, S, ds, r, hr, hd, ho, q⟩ => by
  unfold divmodD at ho
  split at ho
  · split at ho
    · rename_i hl
      cases ho
      obtain ⟨u, v, rfl, h, h'⟩ := hd.two
      rw [h.int, h'.int]
      exact ⟨_, _, rfl, hl, fun p hp => q c _ _ (Nx.new hr hp) (Rep.newTup hr hp (.cons (.int _) (.cons (.int _) .nil)) (by rw [sizeLine_eq]; show 2 ≤ 16777216; decide))⟩
    · cases ho
  · cases ho
theorem b_tuple : CallR X (.type "tuple") (rND X.K tupleD) := CallR.imp call_tuple_of fun xs H Q ⟨c, S, ds, r, hr, hd, ho, q⟩ => by
  unfold tupleD at ho
  split at ho
  · cases ho
    obtain ⟨u, rfl, h⟩ := hd.one
    obtain ⟨a, vs, rfl, h2, h3, h4⟩ := h.list
    exact ⟨a, vs, rfl, .inl ⟨h2, fun p hp => q c _ _ (Nx.new hr hp) (Rep.newTup hr hp h4 h3)⟩⟩
  · cases ho
    obtain ⟨u, rfl, h⟩ := hd.one
    obtain ⟨a, vs, rfl, h2, h3, h4⟩ := (h.plain (fun _ z => by cases z)).tup
    exact ⟨a, vs, rfl, .inr ⟨SqT.of h2, q c H _ (Nx.refl hr) (.tup h2 h3 h4)⟩⟩
  · cases ho
theorem b_list : CallR X (.type "list") (rND X.K listD) := CallR.imp call_list_of fun xs H Q ⟨c, S, ds, r, hr, hd, ho, q⟩ => by
  unfold listD at ho
  split at ho
  · cases ho
    obtain ⟨u, rfl, h⟩ := hd.one
    obtain ⟨a, vs, rfl, h2, h3, h4⟩ := h.list
    exact ⟨a, vs, rfl, .inl h2, fun p hp => q c _ _ (Nx.new hr hp) (Rep.newLst hr hp h4 h3)⟩
  · cases ho
    obtain ⟨u, rfl, h⟩ := hd.one
    obtain ⟨a, vs, rfl, h2, h3, h4⟩ := (h.plain (fun _ z => by cases z)).tup
    exact ⟨a, vs, rfl, .inr (SqT.of h2), fun p hp => q c _ _ (Nx.new hr hp) (Rep.newLst hr hp h4 h3)⟩
  · cases ho
end
/-! ### isinstance with a built-in class -/
def tyD : D → String
  | .none => "NoneType"
  | .bool _ => "bool"
  | .int _ => "int"
  | .str _ => "str"
  | .list _ => "list"
  | .tuple _ => "tuple"
  | .dict _ => "dict"
def isiD (T : String) (d : D) : Bool := match d with
  | .none => T == "NoneType"
  | .bool _ => T == "bool" || T == "int"
  | .int _ => T == "int"
  | .str _ => T == "str"
  | .list _ => T == "list"
  | .tuple _ => T == "tuple"
  | .dict _ => T == "dict"
def tyOk (T : String) : Bool := T == "int" || T == "bool" || T == "str" || T == "list" || T == "tuple"
theorem kit_isi {K : PySem.W.Frag} {T : String} (h : tyOk T = true) (d : D) : PySem.W.kitOne K (.type (tyD d)) (.type T) = some (isiD T d) := by
  unfold tyOk at h
  simp only [Bool.or_eq_true, beq_iff_eq] at h
  rcases h with (((rfl | rfl) | rfl) | rfl) | rfl <;> cases d <;> simp only [isiD, tyD] <;> exact kit_ty (by decide +kernel)
theorem LRepR.ty {c : Cor Ω} {H : Hp} {d : D} {u : V} (h : LRepR c H d u) : TyX Ω H u (.type (tyD d)) := by
  cases h with
  | of h =>
    cases h with
    | of h =>
      cases h with
      | non => exact .base .non
      | bl b => exact .base (.bl b)
      | int b => exact .base (.int b)
      | str b => exact .base (.str b)
      | tup h _ _ => exact .base (.tup h)
      | lst _ h _ _ => exact .base (.lst h)
      | dic _ h _ _ =>
        rcases h with h | ⟨o, h⟩
        · exact .base (.dK h)
        · exact .fDict h
    | lst h _ _ => exact .base (.lst h)
    | dic h _ _ => exact .base (.dK h)
  | scr h _ _ =>
    rcases h with (h | ⟨o, h⟩) | h
    · exact .base (.lst h)
    · exact .base (.frz h)
    · rcases h (fun _ => none) with (z | ⟨o, z⟩) | ⟨o, its, n, h1, h2, _⟩
      · cases z
      · cases z
      · exact .kList h1 h2
def eIsi (T : String) (f : Ex) : Ex := fun ρ S => (f ρ S).bind fun v S1 => match lookR S1 v with
  | some d => .ok (.d (.bool (isiD T d))) S1
  | none => .bad
section
variable {X : Cx} {W : WX}
theorem se_isi {T : String} {e : Expr} {f : Ex} {x : Str} {p q pos : Pos} (hT : tyOk T = true) (he : SE X W e f) (hg : Gl X "isinstance") (hm : X.mg "isinstance" = none) (hg2 : Gl X x) (hm2 : X.mg x = none) (hv : bootBuiltins x = some (.type T))
    (hn : x ≠ "__name__" := by decide) (hdb : (x == ("__debug__" : Str)) = false := by decide)
    (hs : starEach (e :: [.Name x q]) X.env = (false, eval e X.env) :: starEach [.Name x q] X.env := by rfl) (hs2 : starEach [.Name x q] X.env = (false, eval (.Name x q) X.env) :: starEach [] X.env := by rfl) (hpl : (backTo pos (starEach [.Name x q] X.env)).any (·.1) = false := by rfl) :
    SE X W (.Call (.Name "isinstance" p) [e, .Name x q] [] pos) (eIsi T f) :=
  PE.imp (pe_callB call_isi hg hm (by decide +kernel) (pa_cons he (pa_cons (pe_bltn (v := .ty T) hg2 hm2 hv rfl hn hdb) pa_nil hs2) hs) (by decide) (by decide) hs hpl) fun σ H Q ⟨c, ρ, S, hr, he, q⟩ => by
    refine ⟨c, ρ, S, hr, he, (Aft.bind hr q).mono fun v c1 S1 H1 x1 h1 u hu => ?_⟩
    cases e1 : lookR S1 v with
    | none => simp only [e1] at h1; exact h1.elim
    | some d =>
      simp only [e1] at h1
      have hd := lookR_rep x1.rel hu e1
      exact ⟨u, .ty T, .type (tyD d), .type T, isiD T d, rfl, .ty T, hd.ty, kit_isi hT d, h1 c1 H1 (Nx.refl x1.rel) _ (.bl _)⟩
end
end DL

namespace DL
open PySem PySem.Spec PyProof.Rows L2
/-! ### own defs -/
abbrev Fn := List Val → Sto → R Val
def spG (Ω : PySem.W.Frag) (mg : Str → Option Value) (n : Nat) (F : Fn) : Sp := fun vs H Q E => ∃ (c : Cor Ω) (S : Sto) (as : List Val), Rel c S H ∧ VRepL c H as vs ∧ as.length = n ∧ match F as S with
  | .ok v S' => ∀ c' H' u, Nx c S H c' S' H' → VRep c' H' v u → Q u H'
  | .exc x S' => ∀ c' H' cls d, Nx c S H c' S' H' → XRep mg x cls d H' → E cls d H'
  | .bad => False
def fin (r : R Flow) : R Val := match r with
  | .ok (.nx _) S => .ok (.d .none) S
  | .ok (.rt v) S => .ok v S
  | .ok (.ex x _) S => .exc x S
  | _ => .bad
def mkFn (k : Nat) (g : Blk) : Fn := fun as S => fin (g (as.map some ++ List.replicate k none) S)
theorem start_rep {c : Cor Ω} {H : Hp} : ∀ {as : List Val} {vs : List V} (k : Nat), VRepL c H as vs → RepE c H (as.map some ++ List.replicate k none) (vs.map some ++ List.replicate k none) := by
  intro as vs k h
  refine ⟨by simp [h.length], ?_⟩
  induction h with
  | nil =>
    intro i v e
    simp only [List.map_nil, List.nil_append] at e
    rw [List.getElem?_replicate] at e
    split at e <;> cases e
  | cons h t ih =>
    intro i v e
    cases i with
    | zero => simp at e; subst e; exact ⟨_, rfl, h⟩
    | succ i =>
      obtain ⟨u, h1, h2⟩ := ih i v (by simpa using e)
      exact ⟨u, by simpa using h1, h2⟩
section
variable {P : Program} {w : World} {K : PySem.W.Frag} {mg : Str → Option Value} {base : Heap}
/-- the wish about errors in a def's own body -/
abbrev wDef (E : XK) : WX := fun cls d _ H => E cls d H
theorem okF {x qual : Str} {st : Stmt} {f : Addr} {fd : FuncData} {N ps : List Str} {k : Nat} {g : Blk} (F : Fun K x qual st f fd) (S : FnScope N ps (defScope st))
    (hb : ∀ (cdv : Value) (A : Around) (outer : List Env) (s : Shared) (H : Hp) (E : XK), Room k (A.deeper (envOfC qual (defScope st) s.heap.objs.size f cdv)) →
      SSs (cxOf (L2.CX P w) P w K mg base N qual (defScope st) f cdv A outer s H E) (wDef E) (defBody st) g) :
    FnOk P w K mg base (L2.CX P w) (k + 1) f fd ps (spG K mg ps.length (mkFn (N.length - ps.length) g)) := by
  refine F.okX S (fun vs H Q E ⟨c, S, as, hr, hv, hl, _⟩ => by rw [← hv.length]; exact hl) fun cdv A outer s H vs Q E hr h => ⟨_, hb cdv A outer s H E hr, ?_⟩
  obtain ⟨c, S, as, hrel, hv, hl, q⟩ := h
  refine ⟨c, as.map some ++ List.replicate (N.length - ps.length) none, S, hrel, ?_, ?_⟩
  · have e : N.length - vs.length = N.length - ps.length := by rw [← hv.length, hl]
    unfold L2.start
    rw [e]
    exact start_rep _ hv
  · unfold mkFn at q
    show AftS mg (wDef E) c S H _ _
    revert q
    cases g (as.map some ++ List.replicate (N.length - ps.length) none) S with
    | ok fl S' =>
      cases fl with
      | nx ρ => exact fun q c' σ' H' x e => q c' H' .non x .non
      | rt v => exact fun q c' H' u x e => q c' H' u x e
      | ex z ρ => exact fun q c' σ' H' cls d x e y => q c' H' cls d x y
      | bk ρ => exact fun q => q.elim
      | ct ρ => exact fun q => q.elim
    | exc z S' => exact fun q => q.elim
    | bad => exact fun q => q.elim
theorem okG {x qual : Str} {st : Stmt} {f : Addr} {fd : FuncData} {N ps : List Str} {k n m : Nat} {F : Fn} (g : Blk) (U : Fun K x qual st f fd) (S : FnScope N ps (defScope st)) (hF : F = mkFn m g) (hm : N.length - ps.length = m) (hn : ps.length = n)
    (hb : ∀ (cdv : Value) (A : Around) (outer : List Env) (s : Shared) (H : Hp) (E : XK), Room k (A.deeper (envOfC qual (defScope st) s.heap.objs.size f cdv)) →
      SSs (cxOf (L2.CX P w) P w K mg base N qual (defScope st) f cdv A outer s H E) (wDef E) (defBody st) g) :
    FnOk P w K mg base (L2.CX P w) (k + 1) f fd ps (spG K mg n F) := by
  subst hF hm hn
  exact okF U S hb
end
/-! ### a call of an own def: the objects handed in are lent -/
def lent : List Val → List Nat
  | [] => []
  | .loc n :: r => n :: lent r
  | _ :: r => lent r
def rebase : List Val → Nat → List Val
  | [], _ => []
  | .loc _ :: r, k => .loc k :: rebase r (k + 1)
  | v :: r, k => v :: rebase r k
def isLive (S : Sto) (n : Nat) : Bool := match S[n]? with
  | some (some _) => true
  | _ => false
def puts (S : Sto) : List Nat → Sto → Sto
  | [], _ => S
  | n :: B, S' => puts (S.set n (S'.headD none)) B S'.tail
def back (S : Sto) (B : List Nat) (v : Val) (S' : Sto) : R Val := match v with
  | .d x => .ok (.d x) (puts S B S')
  | .loc k => match B[k]? with
    | some n => .ok (.loc n) (puts S B S')
    | none => match S'[k]? with
      | some (some o) => .ok (.loc S.length) (puts S B S' ++ [some o])
      | _ => .bad
  | .scr _ => .bad
def callM (n : Nat) (F : Fn) (vs : List Val) (S : Sto) : R Val :=
  if vs.length = n ∧ (lent vs).Nodup ∧ (lent vs).all (isLive S) = true then
    match F (rebase vs 0) ((lent vs).map fun n => S.getD n none) with
    | .ok v S' => back S (lent vs) v S'
    | .exc x S' => .exc x (puts S (lent vs) S')
    | .bad => .bad
  else .bad
def eCall (n : Nat) (F : Fn) (f : La) : Ex := fun ρ S => (f ρ S).bind fun vs S1 => callM n F vs S1
theorem puts_length : ∀ (B : List Nat) (S S' : Sto), (puts S B S').length = S.length
  | [], _, _ => rfl
  | n :: B, S, S' => by unfold puts; rw [puts_length B]; simp
theorem puts_out : ∀ (B : List Nat) (S S' : Sto) {n : Nat}, n ∉ B → (puts S B S')[n]? = S[n]?
  | [], _, _, _, _ => rfl
  | m :: B, S, S', n, h => by
    unfold puts
    rw [puts_out B _ _ fun z => h (List.mem_cons_of_mem _ z), List.getElem?_set_ne fun z => h (by rw [z]; exact List.mem_cons_self)]
theorem puts_in : ∀ (B : List Nat) (S S' : Sto) {i n : Nat}, B.Nodup → B[i]? = some n → n < S.length → (puts S B S')[n]? = some ((S'[i]?).join)
  | [], _, _, i, n, _, e, _ => by simp at e
  | m :: B, S, S', 0, n, nd, e, hl => by
    have e' : m = n := by simpa using e
    subst e'
    have hm : m ∉ B := (List.nodup_cons.mp nd).1
    unfold puts
    rw [puts_out B _ _ hm, List.getElem?_set_self hl]
    cases S' with
    | nil => rfl
    | cons a r => simp
  | m :: B, S, S', i + 1, n, nd, e, hl => by
    unfold puts
    rw [puts_in B _ S'.tail (i := i) (List.nodup_cons.mp nd).2 (by simpa using e) (by simpa using hl)]
    cases S' with
    | nil => simp
    | cons a r => simp
section
variable {c : Cor Ω} {S : Sto} {H : Hp}
/-- the callee's own view -/
def sub (c : Cor Ω) (B : List Nat) : Cor Ω := ⟨B.map fun n => c.m.getD n 0, c.A⟩
theorem getD_of {α : Type} {l : List α} {n : Nat} {a d : α} (h : l[n]? = some a) : l.getD n d = a := by rw [List.getD_eq_getElem?_getD, h]; rfl
structure Lend (c : Cor Ω) (S : Sto) (B : List Nat) : Prop where
  nd : B.Nodup
  lv : ∀ n ∈ B, ∃ o a, S[n]? = some (some o) ∧ c.m[n]? = some a
theorem Lend.mk' (r : Rel c S H) {B : List Nat} (nd : B.Nodup) (h : B.all (isLive S) = true) : Lend c S B := ⟨nd, fun n hn => by
  have h1 := List.all_eq_true.mp h n hn
  unfold isLive at h1
  split at h1
  · rename_i o ho
    have hl : n < c.m.length := by rw [r.len]; exact (List.getElem?_eq_some_iff.mp ho).1
    exact ⟨o, c.m[n], ho, List.getElem?_eq_getElem hl⟩
  · cases h1⟩
variable {B : List Nat}
theorem Lend.at (L : Lend c S B) {i : Nat} {a : Addr} (h : (sub c B).m[i]? = some a) : ∃ n, B[i]? = some n ∧ c.m[n]? = some a ∧ ∃ o, S[n]? = some (some o) := by
  unfold sub at h
  rw [List.getElem?_map] at h
  obtain ⟨n, h1, h2⟩ := Option.map_eq_some_iff.mp h
  obtain ⟨o, b, h3, h4⟩ := L.lv n (List.mem_of_getElem? h1)
  rw [getD_of h4] at h2
  subst h2
  exact ⟨n, h1, h4, o, h3⟩
theorem Lend.to (L : Lend c S B) {i n : Nat} {a : Addr} (h : B[i]? = some n) (h' : c.m[n]? = some a) : (sub c B).m[i]? = some a := by
  unfold sub
  rw [List.getElem?_map, h]
  exact congrArg some (getD_of h')
theorem Lend.obj (L : Lend c S B) {i n : Nat} (h : B[i]? = some n) : (B.map fun n => S.getD n none)[i]? = S[n]? := by
  obtain ⟨o, _, h3, _⟩ := L.lv n (List.mem_of_getElem? h)
  rw [List.getElem?_map, h, h3]
  exact congrArg some (getD_of h3)
theorem Lend.live (L : Lend c S B) {a : Addr} (h : live (sub c B) (B.map fun n => S.getD n none) a) : ∃ n ∈ B, c.m[n]? = some a ∧ DL.live c S a := by
  obtain ⟨i, o, h1, h2⟩ := h
  obtain ⟨n, h3, h4, o', h5⟩ := L.at h1
  exact ⟨n, List.mem_of_getElem? h3, h4, n, o', h4, h5⟩
theorem nodup_ix' {α : Type} {N : List α} (hN : N.Nodup) {i j : Nat} {x : α} (a : N[i]? = some x) (b : N[j]? = some x) : i = j := by
  obtain ⟨h1, e1⟩ := List.getElem?_eq_some_iff.mp a
  obtain ⟨h2, e2⟩ := List.getElem?_eq_some_iff.mp b
  exact (List.getElem_inj hN).mp (e1.trans e2.symm)
theorem Lend.rel (r : Rel c S H) (L : Lend c S B) : Rel (sub c B) (B.map fun n => S.getD n none) H := by
  refine ⟨by simp [sub], fun i j a o o' h1 h2 h3 h4 => ?_, fun i a o h1 h2 => ?_, r.tr, r.nt⟩
  · obtain ⟨n, e1, e2, p, e3⟩ := L.at h1
    obtain ⟨m, f1, f2, p', f3⟩ := L.at h2
    have := r.inj n m a p p' e2 f2 e3 f3
    subst this
    exact nodup_ix' L.nd e1 f1
  · obtain ⟨n, e1, e2, p, e3⟩ := L.at h1
    rw [L.obj e1] at h2
    obtain ⟨h3, h4⟩ := r.ob n a o e2 h2
    refine ⟨h3, ?_⟩
    cases o <;> exact h4
theorem Lend.args (L : Lend c S B) : ∀ {vs : List Val} {us : List V} (k : Nat), VRepL c H vs us → (∀ i n, (lent vs)[i]? = some n → B[k + i]? = some n) → VRepL (sub c B) H (rebase vs k) us
  | _, _, _, .nil, _ => .nil
  | _, _, k, .cons (x := .d x) h t, hB => .cons h (L.args k t hB)
  | _, _, k, .cons (x := .scr x) h t, hB => .cons h (L.args k t hB)
  | _, _, k, .cons (x := .loc n) ⟨a, h1, h2⟩ t, hB => by
    refine .cons ⟨a, L.to (n := n) (by simpa using hB 0 n rfl) h1, h2⟩ (L.args (k + 1) t fun i m e => ?_)
    have := hB (i + 1) m (by simpa [lent] using e)
    rw [show k + 1 + i = k + (i + 1) by omega]
    exact this
/-- behind the call -/
theorem Lend.nx (r : Rel c S H) (L : Lend c S B) {c1 : Cor Ω} {S1 : Sto} {H1 : Hp} (x : Nx (sub c B) (B.map fun n => S.getD n none) H c1 S1 H1) : Nx c S H ⟨c.m, c1.A⟩ (puts S B S1) H1 := by
  have rs := L.rel r
  have nl : ∀ a, ¬ DL.live c S a → ¬ DL.live (sub c B) (B.map fun n => S.getD n none) a := fun a h z => by
    obtain ⟨_, _, _, q⟩ := L.live z
    exact h q
  have hS : ∀ n o, (puts S B S1)[n]? = some (some o) → (n ∈ B ∧ ∃ i, B[i]? = some n ∧ S1[i]? = some (some o)) ∨ (n ∉ B ∧ S[n]? = some (some o)) := fun n o h => by
    by_cases hn : n ∈ B
    · obtain ⟨i, hi⟩ := List.getElem?_of_mem hn
      obtain ⟨p, a, h3, h4⟩ := L.lv n hn
      rw [puts_in B S S1 L.nd hi (List.getElem?_eq_some_iff.mp h3).1] at h
      refine .inl ⟨hn, i, hi, ?_⟩
      cases q : S1[i]? with
      | none => rw [q] at h; cases h
      | some z => rw [q] at h; exact h
    · rw [puts_out B S S1 hn] at h
      exact .inr ⟨hn, h⟩
  have hm : ∀ i n a, B[i]? = some n → c.m[n]? = some a → c1.m[i]? = some a := fun i n a h1 h2 => prefix_get x.pre (L.to h1 h2)
  have notB : ∀ n a o, n ∉ B → c.m[n]? = some a → S[n]? = some (some o) → ¬ DL.live (sub c B) (B.map fun n => S.getD n none) a := fun n a o h1 h2 h3 z => by
    obtain ⟨m, g1, g2, _⟩ := L.live z
    obtain ⟨p, b, g3, g4⟩ := L.lv m g1
    have := r.inj n m a o p h2 g2 h3 g3
    subst this
    exact h1 g1
  refine ⟨List.prefix_refl _, fun a h => x.grow a h, fun a h l => x.lock a h (nl a l), ⟨?_, ?_, ?_, x.rel.tr, x.rel.nt⟩, fun a o h l => x.fr a o h (nl a l), ?_⟩
  · rw [puts_length]; exact r.len
  · intro n n' a o o' h1 h2 h3 h4
    rcases hS n o h3 with ⟨g1, i, g2, g3⟩ | ⟨g1, g2⟩ <;> rcases hS n' o' h4 with ⟨f1, j, f2, f3⟩ | ⟨f1, f2⟩
    · have := x.rel.inj i j a o o' (hm i n a g2 h1) (hm j n' a f2 h2) g3 f3
      subst this
      rw [g2] at f2; cases f2; rfl
    · obtain ⟨p, b, q1, q2⟩ := L.lv n g1
      exact r.inj n n' a p o' h1 h2 q1 f2
    · obtain ⟨p, b, q1, q2⟩ := L.lv n' f1
      exact r.inj n n' a o p h1 h2 g2 q1
    · exact r.inj n n' a o o' h1 h2 g2 f2
  · intro n a o h1 h3
    rcases hS n o h3 with ⟨g1, i, g2, g3⟩ | ⟨g1, g2⟩
    · obtain ⟨q1, q2⟩ := x.rel.ob i a o (hm i n a g2 h1) g3
      exact ⟨q1, by cases o <;> exact q2⟩
    · obtain ⟨q1, q2⟩ := r.ob n a o h1 g2
      have nlv := notB n a o g1 h1 g2
      refine ⟨x.lock a q1 nlv, ?_⟩
      cases o with
      | lst ds => obtain ⟨vs, e1, e2, e3⟩ := q2; exact ⟨vs, x.fr a _ e1 nlv, e2, RepL.keep (x.kp rs) _ _ e3⟩
      | dic ds => obtain ⟨vs, e1, e2, e3⟩ := q2; exact ⟨vs, x.fr a _ e1 nlv, e2, RepK.keep (x.kp rs) _ _ e3⟩
  · rintro a ⟨n, o, h1, h3⟩
    rcases hS n o h3 with ⟨g1, i, g2, g3⟩ | ⟨g1, g2⟩
    · rcases x.lv a ⟨i, o, hm i n a g2 h1, g3⟩ with z | z
      · obtain ⟨_, _, _, q⟩ := L.live z; exact .inl q
      · exact .inr z
    · exact .inl ⟨n, o, h1, g2⟩
/-- .. where a new object is handed on -/
theorem Lend.nx2 (r : Rel c S H) (L : Lend c S B) {c1 : Cor Ω} {S1 : Sto} {H1 : Hp} (x : Nx (sub c B) (B.map fun n => S.getD n none) H c1 S1 H1) {k : Nat} {o : O} {a : Addr} (hk : B[k]? = none) (ho : S1[k]? = some (some o)) (ha : c1.m[k]? = some a) :
    Nx c S H ⟨c.m ++ [a], c1.A⟩ (puts S B S1 ++ [some o]) H1 := by
  have y := L.nx r x
  have la : DL.live c1 S1 a := ⟨k, o, ha, ho⟩
  have hlen : c.m.length = (puts S B S1).length := y.rel.len
  have hm : ∀ i n a, B[i]? = some n → c.m[n]? = some a → c1.m[i]? = some a := fun i n a h1 h2 => prefix_get x.pre (L.to h1 h2)
  -- no old place that lives has this address
  have no : ∀ n o', c.m[n]? = some a → (puts S B S1)[n]? = some (some o') → False := fun n o' h1 h3 => by
    by_cases hn : n ∈ B
    · obtain ⟨i, hi⟩ := List.getElem?_of_mem hn
      obtain ⟨p, b, h4, h5⟩ := L.lv n hn
      rw [puts_in B S S1 L.nd hi (List.getElem?_eq_some_iff.mp h4).1] at h3
      have h6 : S1[i]? = some (some o') := by
        cases q : S1[i]? with
        | none => rw [q] at h3; cases h3
        | some z => rw [q] at h3; exact h3
      have := x.rel.inj i k a o' o (hm i n a hi h1) ha h6 ho
      subst this
      rw [hi] at hk; cases hk
    · rw [puts_out B S S1 hn] at h3
      obtain ⟨q1, q2⟩ := r.ob n a o' h1 h3
      obtain ⟨u, hu⟩ := r.tr a q1
      rcases x.lv a la with z | z
      · obtain ⟨m, g1, g2, _⟩ := L.live z
        obtain ⟨p, b, g3, g4⟩ := L.lv m g1
        have := r.inj n m a o' p h1 g2 h3 g3
        subst this
        exact hn g1
      · rw [hu] at z; cases z
  have sp : ∀ {α : Type} (l : List α) (z : α) (n : Nat) (b : α), (l ++ [z])[n]? = some b → (l[n]? = some b ∧ n < l.length) ∨ (n = l.length ∧ z = b) := fun l z n b h => by
    rcases Nat.lt_trichotomy n l.length with q | q | q
    · rw [List.getElem?_append_left q] at h; exact .inl ⟨h, q⟩
    · subst q; simp at h; exact .inr ⟨rfl, h⟩
    · rw [List.getElem?_eq_none (by simp; omega)] at h; cases h
  obtain ⟨q1, q2⟩ := x.rel.ob k a o ha ho
  refine ⟨⟨[a], rfl⟩, y.grow, y.lock, ⟨by simp [hlen], ?_, ?_, y.rel.tr, y.rel.nt⟩, y.fr, ?_⟩
  · intro n n' b p p' h1 h2 h3 h4
    rcases sp _ _ _ _ h1 with ⟨g1, l1⟩ | ⟨g1, g1'⟩ <;> rcases sp _ _ _ _ h2 with ⟨g2, l2⟩ | ⟨g2, g2'⟩
    · rcases sp _ _ _ _ h3 with ⟨f1, _⟩ | ⟨f1, _⟩ <;> rcases sp _ _ _ _ h4 with ⟨f2, _⟩ | ⟨f2, _⟩
      · exact y.rel.inj n n' b p p' g1 g2 f1 f2
      · omega
      · omega
      · omega
    · subst g2'
      rcases sp _ _ _ _ h3 with ⟨f1, _⟩ | ⟨f1, _⟩
      · exact (no n p g1 f1).elim
      · omega
    · subst g1'
      rcases sp _ _ _ _ h4 with ⟨f1, _⟩ | ⟨f1, _⟩
      · exact (no n' p' g2 f1).elim
      · omega
    · omega
  · intro n b p h1 h3
    rcases sp _ _ _ _ h1 with ⟨g1, l1⟩ | ⟨g1, g1'⟩
    · rcases sp _ _ _ _ h3 with ⟨f1, _⟩ | ⟨f1, _⟩
      · obtain ⟨z1, z2⟩ := y.rel.ob n b p g1 f1
        exact ⟨z1, by cases p <;> exact z2⟩
      · omega
    · subst g1'
      rcases sp _ _ _ _ h3 with ⟨f1, l⟩ | ⟨f1, f2⟩
      · omega
      · cases f2
        exact ⟨q1, by cases o <;> exact q2⟩
  · rintro b ⟨n, p, h1, h3⟩
    rcases sp _ _ _ _ h1 with ⟨g1, l1⟩ | ⟨g1, g1'⟩
    · rcases sp _ _ _ _ h3 with ⟨f1, _⟩ | ⟨f1, _⟩
      · exact y.lv b ⟨n, p, g1, f1⟩
      · omega
    · subst g1'
      rcases x.lv a la with z | z
      · obtain ⟨_, _, _, q⟩ := L.live z; exact .inl q
      · exact .inr z
end
section
variable {X : Cx} {W : WX}
theorem callM_r {n : Nat} {F : Fn} {c : Cor X.K} {S : Sto} {σ : L2.St} {H : Hp} {vs : List Val} {us : List V} {Q : VK} (hr : Rel c S H) (hv : VRepL c H vs us) (h : Aft X.mg W c S σ H (callM n F vs S) fun v c' _ H' => ∀ u, VRep c' H' v u → Q u H') :
    spG X.K X.mg n F us H Q (WE W σ) := by
  unfold callM at h
  split at h
  · rename_i hc
    obtain ⟨hn, nd, hl⟩ := hc
    have L : Lend c S (lent vs) := Lend.mk' hr nd hl
    have hlen : (rebase vs 0).length = n := by
      rw [← hn]
      have : ∀ (vs : List Val) (k : Nat), (rebase vs k).length = vs.length := by
        intro vs
        induction vs with
        | nil => intro k; rfl
        | cons v r ih => intro k; cases v <;> simp [rebase, ih]
      exact this vs 0
    refine ⟨sub c (lent vs), (lent vs).map fun n => S.getD n none, rebase vs 0, L.rel hr, L.args 0 hv (fun i n e => by rw [Nat.zero_add]; exact e), hlen, ?_⟩
    revert h
    cases F (rebase vs 0) ((lent vs).map fun n => S.getD n none) with
    | ok v S' =>
      intro h c' H' u x hu
      cases v with
      | d y => exact h _ H' (L.nx hr x) u hu
      | scr ds => exact h.elim
      | loc k =>
        obtain ⟨a, h1, h2⟩ := hu
        simp only [back] at h
        cases e : (lent vs)[k]? with
        | some m =>
          simp only [e] at h
          obtain ⟨o, b, q1, q2⟩ := L.lv m (List.mem_of_getElem? e)
          have q3 := prefix_get x.pre (L.to e q2)
          rw [h1] at q3; cases q3
          exact h _ H' (L.nx hr x) u ⟨a, q2, h2⟩
        | none =>
          simp only [e] at h
          cases e2 : S'[k]? with
          | none => simp only [e2] at h; exact h.elim
          | some z =>
            cases z with
            | none => simp only [e2] at h; exact h.elim
            | some o =>
              simp only [e2] at h
              exact h _ H' (L.nx2 hr x e e2 h1) u ⟨a, by rw [← hr.len]; simp, h2⟩
    | exc y S' => exact fun h c' H' cls d x z => h _ H' cls d (L.nx hr x) z
    | bad => exact fun h => h
  · exact h.elim
theorem se_call {k n : Nat} {f : Addr} {fd : FuncData} {ps : List Str} {F : Fn} {x : Str} {e : Expr} {es : List Expr} {fa : La} {p pos : Pos} (tk : Takes X W) (G : FnOk X.prog X.w X.K X.mg X.base (L2.CX X.prog X.w) k f fd ps (spG X.K X.mg n F)) (hr : Room k X.A) (hg : Gl X x) (hm : X.mg x = some (.ref f)) (hk : PySem.W.keepIn X.K (.ref f) = true) (hb : Binds X.K fd ps [])
    (ha : SA X W (e :: es) fa) (hdb : (x == ("__debug__" : Str)) = false := by decide) (he : starEach (e :: es) X.env = (false, eval e X.env) :: starEach es X.env := by rfl) (hpl : (backTo pos (starEach es X.env)).any (·.1) = false := by rfl) :
    SE X W (.Call (.Name x p) (e :: es) [] pos) (eCall n F fa) :=
  PE.imp (pe_callS (E := WE W) G hr hg hm hk hb (fun σ => passAt tk σ) ha hdb he hpl) fun σ H Q ⟨c, ρ, S, hr, he, q⟩ =>
    ⟨c, ρ, S, hr, he, (Aft.bind hr q).mono fun vs c1 S1 H1 x1 h1 us hus => callM_r x1.rel hus h1⟩
end
end DL

namespace DL
open PySem PySem.Spec PyProof.Rows L2
/-! ### blocks and small statements -/
def R.fl (r : R Flow) (k : Ev → Sto → R Flow) : R Flow := match r with
  | .ok (.nx ρ) S => k ρ S
  | r => r
def sNil : Blk := fun ρ S => .ok (.nx ρ) S
def sSeq (g h : Blk) : Blk := fun ρ S => (g ρ S).fl h
def sExpr (f : Ex) : Blk := fun ρ S => (f ρ S).st ρ fun _ S1 => .ok (.nx ρ) S1
def sRet (f : Ex) : Blk := fun ρ S => (f ρ S).st ρ fun v S1 => .ok (.rt v) S1
def sRetN : Blk := fun _ S => .ok (.rt (.d .none)) S
def sIf (t : Te) (g h : Blk) : Blk := fun ρ S => (t ρ S).st ρ fun b S1 => match b with
  | true => g ρ S1
  | false => h ρ S1
def sSet (i : Nat) (f : Ex) : Blk := fun ρ S => (f ρ S).st ρ fun v S1 => .ok (.nx (ρ.set i (some v))) S1
def sRaise (x : XV) : Blk := fun ρ S => .ok (.ex x ρ) S
def sBrk : Blk := fun ρ S => .ok (.bk ρ) S
def sCt : Blk := fun ρ S => .ok (.ct ρ) S
section
variable {X : Cx} {W : WX} {pos : Pos}
theorem ss_nil : SSs X W [] sNil := PSs.imp pss_nil fun D σ H ⟨c, ρ, S, hr, he, q⟩ => q c σ H (Nx.refl hr) he
theorem ss_cons {st : Stmt} {rest : List Stmt} {g h : Blk} (h1 : SS X W st g) (h2 : SSs X W rest h) : SSs X W (st :: rest) (sSeq g h) := PSs.imp (pss_cons h1 h2) fun D σ H ⟨c, ρ, S, hr, he, q⟩ => by
  refine ⟨c, ρ, S, hr, he, ?_⟩
  unfold sSeq at q
  revert q
  cases g ρ S with
  | ok fl S' =>
    cases fl with
    | nx ρ' => exact fun q c' σ' H' x e => ⟨c', ρ', S', x.rel, e, AftS.later hr x q⟩
    | bk ρ => exact fun q => q
    | ct ρ => exact fun q => q
    | rt v => exact fun q => q
    | ex z ρ => exact fun q => q
  | exc x S' => exact fun q => q
  | bad => exact fun q => q
theorem ss_one {st : Stmt} {g : Blk} (h1 : SS X W st g) : SSs X W [st] g := pss_one h1
theorem ss_pass : SS X W (.Pass pos) sNil := PS.imp ps_pass fun D σ H ⟨c, ρ, S, hr, he, q⟩ => q c σ H (Nx.refl hr) he
theorem ss_brk : SS X W (.Break pos) sBrk := PS.imp ps_break fun D σ H ⟨c, ρ, S, hr, he, q⟩ => q c σ H (Nx.refl hr) he
theorem ss_ct : SS X W (.Continue pos) sCt := PS.imp ps_continue fun D σ H ⟨c, ρ, S, hr, he, q⟩ => q c σ H (Nx.refl hr) he
theorem ss_expr {e : Expr} {f : Ex} (h : SE X W e f) (hs : swapsWith e none pos.line X.env = pure false := by rfl) : SS X W (.Expr e pos) (sExpr f) := PS.imp (ps_expr h hs) fun D σ H ⟨c, ρ, S, hr, he, q⟩ =>
  ⟨c, ρ, S, hr, he, (Aft.st hr he q).mono fun v c1 S1 H1 x1 h1 u hu => h1 c1 σ H1 (Nx.refl x1.rel) (he.keep hr x1)⟩
theorem ss_ret {e : Expr} {f : Ex} (h : SE X W e f) : SS X W (.Return (some e) pos) (sRet f) := PS.imp (ps_ret h) fun D σ H ⟨c, ρ, S, hr, he, q⟩ =>
  ⟨c, ρ, S, hr, he, (Aft.st hr he q).mono fun v c1 S1 H1 x1 h1 u hu => h1 c1 H1 u (Nx.refl x1.rel) hu⟩
theorem ss_retN : SS X W (.Return none pos) sRetN := PS.imp ps_retN fun D σ H ⟨c, ρ, S, hr, he, q⟩ => q c H .non (Nx.refl hr) .non
theorem ss_if {e : Expr} {a b : List Stmt} {t : Te} {g h : Blk} (ht : ST X W e t) (hg : SSs X W a g) (hh : SSs X W b h) : SS X W (.If e a b pos) (sIf t g h) := PS.imp (ps_if ht hg hh) fun D σ H ⟨c, ρ, S, hr, he, q⟩ => by
  refine ⟨c, ρ, S, hr, he, (Aft.st hr he q).mono fun v c1 S1 H1 x1 h1 => ?_⟩
  cases v with
  | true => exact iteT ⟨c1, ρ, S1, x1.rel, he.keep hr x1, h1⟩
  | false => exact iteF ⟨c1, ρ, S1, x1.rel, he.keep hr x1, h1⟩
theorem ss_set {i : Nat} {x : Str} {e : Expr} {f : Ex} {pos' : Pos} (hN : X.N.Nodup) (hi : X.N[i]? = some x) (hx : Loc X.env.scope x) (h : SE X W e f) (hs : swapsWith e (some (.Name x pos')) pos.line X.env = pure false := by rfl)
    (hf : X.fn x = true ∨ X.env.scope.names.lookup x = some .local := by first | exact .inl rfl | exact .inr rfl | assumption) : SS X W (.Assign [.Name x pos'] e pos) (sSet i f) :=
  PS.imp (ps_set hN hi hx h hs hf) fun D σ H ⟨c, ρ, S, hr, he, q⟩ =>
    ⟨c, ρ, S, hr, he, (Aft.st hr he q).mono fun v c1 S1 H1 x1 h1 u hu => h1 c1 _ H1 (Nx.refl x1.rel) ((he.keep hr x1).set hu i)⟩
end
/-! ### targets -/
abbrev Tg := Val → Ev → Sto → R Ev
abbrev Tgs := List D → Ev → Sto → R Ev
def R.noX {α : Type} (r : R α) : R α := match r with
  | .exc _ _ => .bad
  | r => r
def AftG (c : Cor Ω) (S : Sto) (H : Hp) (r : R Ev) (Q : L2.St → Hp → Prop) : Prop := match r with
  | .ok ρ S' => ∀ c' σ' H', Nx c S H c' S' H' → RepE c' H' ρ σ' → Q σ' H'
  | _ => False
def tG (Ω : PySem.W.Frag) (g : Tg) : TG := fun u σ H Q => ∃ (c : Cor Ω) (ρ : Ev) (S : Sto) (v : Val), Rel c S H ∧ RepE c H ρ σ ∧ VRep c H v u ∧ AftG c S H (g v ρ S) Q
def tGs (Ω : PySem.W.Frag) (g : Tgs) : TGs := fun us σ H Q => ∃ (c : Cor Ω) (ρ : Ev) (S : Sto) (ds : List D), Rel c S H ∧ RepE c H ρ σ ∧ RepL c.A H ds us ∧ AftG c S H (g ds ρ S) Q
abbrev SG (X : Cx) (e : Expr) (g : Tg) : Prop := PG X e (tG X.K g)
abbrev SGs (X : Cx) (es : List Expr) (g : Tgs) : Prop := PGs X es (tGs X.K g)
theorem PG.imp {X : Cx} {e : Expr} {t t' : TG} (h : PG X e t) (hi : ∀ v σ H Q, t' v σ H Q → t v σ H Q) : PG X e t' := ⟨by
  have := h.run
  intros
  apply this <;> first | assumption | (apply hi; assumption)⟩
theorem PGs.imp {X : Cx} {e : List Expr} {t t' : TGs} (h : PGs X e t) (hi : ∀ v σ H Q, t' v σ H Q → t v σ H Q) : PGs X e t' := ⟨by
  have := h.run
  intros
  apply this <;> first | assumption | (apply hi; assumption)⟩
def gNm (i : Nat) : Tg := fun v ρ S => .ok (ρ.set i (some v)) S
def gsNil : Tgs := fun ds ρ S => match ds with
  | [] => .ok ρ S
  | _ => .bad
def gsCons (g : Tg) (gs : Tgs) : Tgs := fun ds ρ S => match ds with
  | d :: r => (g (.d d) ρ S).bind fun ρ1 S1 => gs r ρ1 S1
  | [] => .bad
def gTp (n : Nat) (gs : Tgs) : Tg := fun v ρ S => match v with
  | .d (.tuple ds) => if ds.length = n then gs ds ρ S else .bad
  | _ => .bad
section
variable {X : Cx} {W : WX} {pos : Pos}
theorem AftG.later {c c1 : Cor Ω} {S S1 : Sto} {H H1 : Hp} (hr : Rel c S H) (x : Nx c S H c1 S1 H1) {r : R Ev} {Q : L2.St → Hp → Prop} (h : AftG c S H r Q) : AftG c1 S1 H1 r Q := by
  cases r with
  | ok a S' => exact fun c' σ' H' y e => h c' σ' H' (x.trans hr y) e
  | exc x S' => exact h
  | bad => exact h
theorem sg_name {i : Nat} {x : Str} (hN : X.N.Nodup) (hi : X.N[i]? = some x) (hx : Loc X.env.scope x) (hf : X.fn x = true ∨ X.env.scope.names.lookup x = some .local := by first | exact .inl rfl | exact .inr rfl | assumption) : SG X (.Name x pos) (gNm i) :=
  PG.imp (pg_name hN hi hx hf) fun u σ H Q ⟨c, ρ, S, v, hr, he, hv, q⟩ => q c _ H (Nx.refl hr) (he.set hv i)
theorem sgs_nil : SGs X [] gsNil := PGs.imp pgs_nil fun us σ H Q ⟨c, ρ, S, ds, hr, he, hv, q⟩ => by
  cases hv with
  | nil => exact ⟨rfl, q c σ H (Nx.refl hr) he⟩
  | cons _ _ => exact q.elim
theorem sgs_cons {e : Expr} {es : List Expr} {g : Tg} {gs : Tgs} (h1 : SG X e g) (h2 : SGs X es gs)
    (hs : (assignEach (e :: es) X.env).map (·.2) = assign e X.env :: (assignEach es X.env).map (·.2) := by rfl) : SGs X (e :: es) (gsCons g gs) := PGs.imp (pgs_cons h1 h2 hs) fun us σ H Q ⟨c, ρ, S, ds, hr, he, hv, q⟩ => by
  cases hv with
  | nil => exact q.elim
  | cons hd ht =>
    rename_i d ds v vs
    refine ⟨_, _, rfl, c, ρ, S, .d _, hr, he, hd, ?_⟩
    simp only [gsCons] at q
    revert q
    generalize g _ ρ S = r
    cases r with
    | ok ρ1 S1 => exact fun q c' σ' H' x e => ⟨c', ρ1, S1, _, x.rel, e, RepL.keep (x.kp hr) _ _ ht, AftG.later hr x q⟩
    | exc z S' => exact fun q => q
    | bad => exact fun q => q
theorem sg_tup {es : List Expr} {k : Nat} {n : Nat} {gs : Tgs} (h : PG X (.Tuple es k pos) (gTup X.K n (tGs X.K gs))) : SG X (.Tuple es k pos) (gTp n gs) := PG.imp h fun u σ H Q ⟨c, ρ, S, v, hr, he, hv, q⟩ => by
  unfold gTp at q
  split at q
  · split at q
    · rename_i ds hl
      cases hv with
      | tup h1 h2 h3 => exact ⟨_, _, rfl, SqT.of h1, by rw [← h3.length]; exact hl, c, ρ, S, ds, hr, he, h3, q⟩
    · exact q.elim
  · exact q.elim
/-- an assignment to a target -/
def sAsg (f : Ex) (g : Tg) : Blk := fun ρ S => (f ρ S).st ρ fun v S1 => ((g v ρ S1).noX).st ρ fun ρ1 S2 => .ok (.nx ρ1) S2
theorem aftG_of {mg : Str → Option Value} {c : Cor Ω} {S : Sto} {H : Hp} {ρ : Ev} {r : R Ev} {D : Ends} (h : AftS mg W c S H ((r.noX).st ρ fun ρ1 S2 => .ok (.nx ρ1) S2) D) : AftG c S H r D.nx := by
  cases r with
  | ok a S' => exact h
  | exc x S' => exact h.elim
  | bad => exact h.elim
theorem ss_asg {tg e : Expr} {f : Ex} {g : Tg} (h : PS X (.Assign [tg] e pos) (tAsg (tE X.K X.mg W f) (tG X.K g))) : SS X W (.Assign [tg] e pos) (sAsg f g) := PS.imp h fun D σ H ⟨c, ρ, S, hr, he, q⟩ =>
  ⟨c, ρ, S, hr, he, (Aft.st hr he q).mono fun v c1 S1 H1 x1 h1 u hu => ⟨c1, ρ, S1, v, x1.rel, he.keep hr x1, hu, aftG_of h1⟩⟩
end
/-! ### the store: a new place, a write -/
theorem Nx.make {c : Cor Ω} {S : Sto} {H : Hp} (r : Rel c S H) {p : Addr} {ho : HO} {o : O} (hp : H p = none) (nt : ∀ vs, ho ≠ .tup vs) (hn : ORep (⟨c.m ++ [p], fun a => c.A a ∨ a = p⟩ : Cor Ω) (upd H p ho) p o) :
    Nx c S H ⟨c.m ++ [p], fun a => c.A a ∨ a = p⟩ (S ++ [some o]) (upd H p ho) := by
  have na : ∀ a, c.A a → a ≠ p := fun a h e => by
    obtain ⟨q, z⟩ := r.tr a h
    rw [e, hp] at z; cases z
  have k : Kp c.A H (fun a => c.A a ∨ a = p) (upd H p ho) := ⟨fun a vs h => by rw [upd_ne (ne_of_none h hp)]; exact h, fun a q h _ => by rw [upd_ne (ne_of_none h hp)]; exact h, fun a q h z => by
    rcases z with z | z
    · exact z
    · exact absurd z (ne_of_none h hp)⟩
  have sp : ∀ {α : Type} (l : List α) (z : α) (n : Nat) (b : α), (l ++ [z])[n]? = some b → (l[n]? = some b ∧ n < l.length) ∨ (n = l.length ∧ z = b) := fun l z n b h => by
    rcases Nat.lt_trichotomy n l.length with q | q | q
    · rw [List.getElem?_append_left q] at h; exact .inl ⟨h, q⟩
    · subst q; simp at h; exact .inr ⟨rfl, h⟩
    · rw [List.getElem?_eq_none (by simp; omega)] at h; cases h
  have hlen := r.len
  refine ⟨⟨[p], rfl⟩, fun a h => ?_, fun a h _ => .inl h, ⟨by simp [hlen], ?_, ?_, ?_, ?_⟩, fun a q h _ => by rw [upd_ne (ne_of_none h hp)]; exact h, ?_⟩
  · rcases h with h | h
    · exact .inl h
    · subst h; exact .inr hp
  · intro n n' b p p' h1 h2 h3 h4
    rcases sp _ _ _ _ h1 with ⟨g1, l1⟩ | ⟨g1, g1'⟩ <;> rcases sp _ _ _ _ h2 with ⟨g2, l2⟩ | ⟨g2, g2'⟩
    · rcases sp _ _ _ _ h3 with ⟨f1, _⟩ | ⟨f1, _⟩ <;> rcases sp _ _ _ _ h4 with ⟨f2, _⟩ | ⟨f2, _⟩
      · exact r.inj n n' b p p' g1 g2 f1 f2
      · omega
      · omega
      · omega
    · subst g2'
      rcases sp _ _ _ _ h3 with ⟨f1, _⟩ | ⟨f1, _⟩
      · exact absurd rfl (na _ (r.ob n _ p g1 f1).1)
      · omega
    · subst g1'
      rcases sp _ _ _ _ h4 with ⟨f1, _⟩ | ⟨f1, _⟩
      · exact absurd rfl (na _ (r.ob n' _ p' g2 f1).1)
      · omega
    · omega
  · intro n b q h1 h3
    rcases sp _ _ _ _ h1 with ⟨g1, l1⟩ | ⟨g1, g1'⟩
    · rcases sp _ _ _ _ h3 with ⟨f1, _⟩ | ⟨f1, _⟩
      · obtain ⟨z1, z2⟩ := r.ob n b q g1 f1
        refine ⟨.inl z1, ?_⟩
        cases q with
        | lst ds => obtain ⟨vs, q1, q2, q3⟩ := z2; exact ⟨vs, by rw [upd_ne (na b z1)]; exact q1, q2, RepL.keep k _ _ q3⟩
        | dic ds => obtain ⟨vs, q1, q2, q3⟩ := z2; exact ⟨vs, by rw [upd_ne (na b z1)]; exact q1, q2, RepK.keep k _ _ q3⟩
      · omega
    · subst g1'
      rcases sp _ _ _ _ h3 with ⟨f1, l⟩ | ⟨f1, f2⟩
      · omega
      · cases f2
        exact ⟨.inr rfl, hn⟩
  · intro a h
    rcases h with h | h
    · obtain ⟨q, z⟩ := r.tr a h
      exact ⟨q, by rw [upd_ne (na a h)]; exact z⟩
    · subst h; exact ⟨ho, upd_same⟩
  · intro a vs h z
    rcases z with z | z
    · rw [upd_ne (na a z)] at h
      exact r.nt a vs h z
    · subst z
      rw [upd_same] at h
      exact nt vs (Option.some.inj h)
  · rintro b ⟨n, q, h1, h3⟩
    rcases sp _ _ _ _ h1 with ⟨g1, l1⟩ | ⟨g1, g1'⟩
    · rcases sp _ _ _ _ h3 with ⟨f1, _⟩ | ⟨f1, _⟩
      · exact .inl ⟨n, q, g1, f1⟩
      · omega
    · subst g1'; exact .inr hp
theorem make_kp {c : Cor Ω} {S : Sto} {H : Hp} (r : Rel c S H) {p : Addr} {ho : HO} (hp : H p = none) : Kp c.A H (fun a => c.A a ∨ a = p) (upd H p ho) := ⟨fun a vs h => by rw [upd_ne (ne_of_none h hp)]; exact h, fun a q h _ => by rw [upd_ne (ne_of_none h hp)]; exact h, fun a q h z => by
    rcases z with z | z
    · exact z
    · exact absurd z (ne_of_none h hp)⟩
/-- a live object is changed -/
theorem Nx.write {c : Cor Ω} {S : Sto} {H : Hp} (r : Rel c S H) {n : Nat} {a : Addr} {ho : HO} {o o' : O} (ha : c.m[n]? = some a) (hs : S[n]? = some (some o)) (nt : ∀ vs, ho ≠ .tup vs) (hn : ORep c (upd H a ho) a o') :
    Nx c S H c (S.set n (some o')) (upd H a ho) := by
  have hA := (r.ob n a o ha hs).1
  have hl : n < S.length := (List.getElem?_eq_some_iff.mp hs).1
  have k : Kp c.A H c.A (upd H a ho) := ⟨fun b vs h => by rw [upd_ne (show b ≠ a from fun z => r.nt b vs h (by rw [z]; exact hA))]; exact h, fun b q h z => by rw [upd_ne (show b ≠ a from fun y => z (by rw [y]; exact hA))]; exact h, fun _ _ _ z => z⟩
  have st : ∀ m q, (S.set n (some o'))[m]? = some (some q) → (m = n ∧ q = o') ∨ (m ≠ n ∧ S[m]? = some (some q)) := fun m q h => by
    by_cases e : n = m
    · subst e; rw [List.getElem?_set_self hl] at h; exact .inl ⟨rfl, (Option.some.inj (Option.some.inj h)).symm⟩
    · rw [List.getElem?_set_ne e] at h; exact .inr ⟨fun z => e z.symm, h⟩
  have lv : ∀ m q, (S.set n (some o'))[m]? = some (some q) → ∃ q', S[m]? = some (some q') := fun m q h => by
    rcases st m q h with ⟨rfl, _⟩ | ⟨_, h⟩
    · exact ⟨o, hs⟩
    · exact ⟨q, h⟩
  refine ⟨List.prefix_refl _, fun _ h => .inl h, fun _ h _ => h, ⟨by simpa using r.len, ?_, ?_, ?_, ?_⟩, fun b q h z => ?_, ?_⟩
  · intro m m' b q q' h1 h2 h3 h4
    obtain ⟨p, h5⟩ := lv m q h3
    obtain ⟨p', h6⟩ := lv m' q' h4
    exact r.inj m m' b p p' h1 h2 h5 h6
  · intro m b q h1 h3
    rcases st m q h3 with ⟨rfl, rfl⟩ | ⟨hne, h⟩
    · rw [ha] at h1; cases h1; exact ⟨hA, hn⟩
    · obtain ⟨z1, z2⟩ := r.ob m b q h1 h
      have hb : b ≠ a := fun z => by subst z; exact hne (r.inj m n b q o h1 ha h hs)
      refine ⟨z1, ?_⟩
      cases q with
      | lst ds => obtain ⟨vs, q1, q2, q3⟩ := z2; exact ⟨vs, by rw [upd_ne hb]; exact q1, q2, RepL.keep k _ _ q3⟩
      | dic ds => obtain ⟨vs, q1, q2, q3⟩ := z2; exact ⟨vs, by rw [upd_ne hb]; exact q1, q2, RepK.keep k _ _ q3⟩
  · intro b h
    by_cases e : b = a
    · subst e; exact ⟨ho, upd_same⟩
    · obtain ⟨q, z⟩ := r.tr b h
      exact ⟨q, by rw [upd_ne e]; exact z⟩
  · intro b vs h z
    by_cases e : b = a
    · subst e; rw [upd_same] at h; exact nt vs (Option.some.inj h)
    · rw [upd_ne e] at h; exact r.nt b vs h z
  · by_cases e : b = a
    · subst e; exact absurd ⟨n, o, ha, hs⟩ z
    · rw [upd_ne e]; exact h
  · rintro b ⟨m, q, h1, h3⟩
    obtain ⟨p, h5⟩ := lv m q h3
    exact .inl ⟨m, p, h1, h5⟩
theorem write_kp {c : Cor Ω} {S : Sto} {H : Hp} (r : Rel c S H) {n : Nat} {a : Addr} {ho : HO} {o : O} (ha : c.m[n]? = some a) (hs : S[n]? = some (some o)) : Kp c.A H c.A (upd H a ho) := by
  have hA := (r.ob n a o ha hs).1
  exact ⟨fun b vs h => by rw [upd_ne (show b ≠ a from fun z => r.nt b vs h (by rw [z]; exact hA))]; exact h, fun b q h z => by rw [upd_ne (show b ≠ a from fun y => z (by rw [y]; exact hA))]; exact h, fun _ _ _ z => z⟩
end DL

namespace DL
open PySem PySem.Spec PyProof.Rows L2
/-! ### objects in the store -/
def mkLoc (vs : List Val) (S : Sto) : R Val := match allD vs with
  | some ds => if ds.length ≤ 1000 then .ok (.loc S.length) (S ++ [some (.lst ds)]) else .bad
  | none => .bad
def eLstM (f : La) : Ex := fun ρ S => (f ρ S).bind mkLoc
def eDicM : Ex := fun _ S => .ok (.loc S.length) (S ++ [some (.dic [])])
def appL (v w : Val) (S : Sto) : R Val := match v, w with
  | .loc n, .d x => match S[n]? with
    | some (some (.lst ds)) => if ds.length < sizeLine then .ok (.d .none) (S.set n (some (.lst (ds ++ [x])))) else .bad
    | _ => .bad
  | _, _ => .bad
def isLst (S : Sto) (v : Val) : Bool := match v with
  | .loc n => match S[n]? with
    | some (some (.lst _)) => true
    | _ => false
  | _ => false
def eApp (fo fe : Ex) : Ex := fun ρ S => (fo ρ S).bind fun v S1 => match isLst S1 v with
  | true => (fe ρ S1).bind fun w S2 => appL v w S2
  | false => .bad
/-- o[k] = w in the store -/
def setL (v k w : Val) (S : Sto) : R Unit := match v, k, w with
  | .loc n, .d (.int i), .d x => match S[n]? with
    | some (some (.lst ds)) => match ixN ds.length i with
      | some j => .ok () (S.set n (some (.lst (ds.set j x))))
      | none => .bad
    | _ => .bad
  | _, _, _ => .bad
def putKD (kds : List (Key × D)) (k : Key) (v : D) : List (Key × D) := if kds.any (fun kv => decide (kv.1 = k)) then kds.map (fun kv => if kv.1 = k then (kv.1, v) else kv) else kds ++ [(k, v)]
def setD (v k w : Val) (S : Sto) : R Unit := match v, k, w with
  | .loc n, .d i, .d x => match S[n]?, keyOf i with
    | some (some (.dic kds)), some kk => if kds.length < sizeLine then .ok () (S.set n (some (.dic (putKD kds kk x)))) else .bad
    | _, _ => .bad
  | _, _, _ => .bad
def sPut (p : Val → Val → Val → Sto → R Unit) (fo fi fe : Ex) : Blk := fun ρ S => (fe ρ S).st ρ fun w S1 => (fo ρ S1).st ρ fun v S2 => (fi ρ S2).st ρ fun k S3 => (p v k w S3).st ρ fun _ S4 => .ok (.nx ρ) S4
def gSb (p : Val → Val → Val → Sto → R Unit) (fo fi : Ex) : Tg := fun w ρ S => ((fo ρ S).noX).bind fun v S2 => ((fi ρ S2).noX).bind fun k S3 => (p v k w S3).bind fun _ S4 => .ok ρ S4
section
variable {X : Cx} {W : WX} {pos : Pos}
theorem mkLoc_r {mg : Str → Option Value} {vs : List Val} {us : List V} {c : Cor Ω} {S : Sto} {H : Hp} {σ : L2.St} {Q : VK} (hr : Rel c S H) (hv : VRepL c H vs us) (h : Aft mg W c S σ H (mkLoc vs S) fun v c' _ H' => ∀ u, VRep c' H' v u → Q u H') :
    us.length ≤ sizeLine ∧ ∀ p, H p = none → Q (.ref p) (upd H p (.lst us)) := by
  unfold mkLoc at h
  split at h
  · rename_i ds e
    split at h
    · rename_i hl
      have r := allD_rep hv e
      have hz : us.length ≤ sizeLine := by rw [← r.length, sizeLine_eq]; omega
      refine ⟨hz, fun p hp => ?_⟩
      refine h _ _ (Nx.make (ho := .lst us) (o := .lst ds) hr hp (fun _ z => by cases z) ⟨us, upd_same, hz, RepL.keep (make_kp hr hp) _ _ r⟩) _ ⟨p, ?_, rfl⟩
      rw [← hr.len]; simp
    · exact h.elim
  · exact h.elim
theorem se_lstM {es : List Expr} {f : La} (h : SA X W es f) : SE X W (.List es pos) (eLstM f) := PE.imp (pe_lst h) fun σ H Q ⟨c, ρ, S, hr, he, q⟩ =>
  ⟨c, ρ, S, hr, he, (Aft.bind hr q).mono fun vs c1 S1 H1 x1 h1 us hus => mkLoc_r x1.rel hus h1⟩
theorem se_dicM : SE X W (.Dict [] [] pos) eDicM := PE.imp pe_dnewK fun σ H Q ⟨c, ρ, S, hr, he, q⟩ p hp => by
  refine q _ _ (Nx.make (ho := .dK []) (o := .dic []) hr hp (fun _ z => by cases z) ⟨[], upd_same, Nat.zero_le _, .nil⟩) _ ⟨p, ?_, rfl⟩
  rw [← hr.len]; simp
/-- an empty dict that is never changed -/
theorem se_dic0 : SE X W (.Dict [] [] pos) (eC (.dict [])) := PE.imp pe_dnewK fun σ H Q ⟨c, ρ, S, hr, he, q⟩ p hp =>
  q _ _ (Nx.new hr hp) _ (.dic (fun z => by obtain ⟨o, q⟩ := hr.tr p z; rw [hp] at q; cases q) (.inl upd_same) (Nat.zero_le _) .nil)
theorem isLst_at {c : Cor Ω} {S : Sto} {H : Hp} {v : Val} {u : V} (hr : Rel c S H) (hv : VRep c H v u) (h : isLst S v = true) : ∃ n a ds vs, v = .loc n ∧ u = .ref a ∧ c.m[n]? = some a ∧ S[n]? = some (some (.lst ds)) ∧ H a = some (.lst vs) ∧ vs.length ≤ sizeLine ∧ RepL c.A H ds vs := by
  unfold isLst at h
  split at h
  · rename_i n
    split at h
    · rename_i ds e
      obtain ⟨a, h1, h2⟩ := hv
      obtain ⟨_, vs, q1, q2, q3⟩ := hr.ob n a _ h1 e
      exact ⟨n, a, ds, vs, rfl, h2, h1, e, q1, q2, q3⟩
    · cases h
  · cases h
theorem se_app {o e : Expr} {fo fe : Ex} {apos : Pos} (ho : SE X W o fo) (he : SE X W e fe) (hbase : attributeBase o "append" X.env (eval o X.env) = eval o X.env := by rfl)
    (hfew : ((backTo pos (starEach [e] X.env)).all (fun x => !x.1) && (backToKw pos (keywordEach [] X.env)).all (fun x => x.1.isSome)
      && decide ([e].length + ([] : List Keyword).length + (if ([] : List Keyword).isEmpty then 0 else 1) < 30)) = true := by rfl)
    (hline : (apos.endLine == pos.line) = true := by rfl) (hs : starEach [e] X.env = (false, eval e X.env) :: starEach [] X.env := by rfl) :
    SE X W (.Call (.Attribute o "append" apos) [e] [] pos) (eApp fo fe) :=
  PE.imp (pe_bm PySem.F.plainAttrs_list PySem.F.slot_list_append PySem.F.type_list_append mt_append ho (pa_cons he pa_nil hs) hbase hfew hline hs rfl) fun σ H Q ⟨c, ρ, S, hr, he, q⟩ => by
    refine ⟨c, ρ, S, hr, he, (Aft.bind hr q).mono fun v c1 S1 H1 x1 h1 u hu => ?_⟩
    cases e1 : isLst S1 v with
    | false => simp only [e1] at h1; exact h1.elim
    | true =>
      simp only [e1] at h1
      obtain ⟨n, a, ds, vs, rfl, rfl, g1, g2, g3, g4, g5⟩ := isLst_at x1.rel hu e1
      refine ⟨.inl ⟨rfl, vs, SqL.of g3⟩, c1, ρ, S1, x1.rel, he.keep hr x1, (Aft.bind x1.rel h1).mono fun w c2 S2 H2 x2 h2 y hy => ?_⟩
      have hv2 : VRep c2 H2 (.loc n) (.ref a) := ⟨a, prefix_get x2.pre g1, rfl⟩
      show rAppend (.ref a) [y] H2 Q
      cases w with
      | loc _ => exact h2.elim
      | scr _ => exact h2.elim
      | d x =>
        simp only [appL] at h2
        split at h2
        · rename_i ds2 e2
          split at h2
          · rename_i hl
            obtain ⟨_, vs2, q1, q2, q3⟩ := x2.rel.ob n a _ (prefix_get x2.pre g1) e2
            refine ⟨a, vs2, y, rfl, rfl, q1, by rw [← q3.length]; exact hl, ?_⟩
            refine h2 c2 _ (Nx.write x2.rel (prefix_get x2.pre g1) e2 (fun _ z => by cases z) ⟨vs2 ++ [y], upd_same, ?_, ?_⟩) _ .non
            · rw [List.length_append, ← q3.length]; exact hl
            · exact (RepL.keep (write_kp x2.rel (prefix_get x2.pre g1) e2) _ _ q3).append (.cons (Rep.keep (write_kp x2.rel (prefix_get x2.pre g1) e2) _ _ hy) .nil)
          · exact h2.elim
        · exact h2.elim
/-- what a store needs of its reading -/
def SetOk (Ω : PySem.W.Frag) (t : TSet) (p : Val → Val → Val → Sto → R Unit) : Prop := ∀ (mg : Str → Option Value) (W : WX) (c : Cor Ω) (S : Sto) (H : Hp) (σ : L2.St) (v k w : Val) (x y z : V) (Q : Hp → Prop), Rel c S H → VRep c H v x → VRep c H k y → VRep c H w z →
  Aft mg W c S σ H (p v k w S) (fun _ _ _ H' => Q H') → t x y z H Q
theorem setL_ok : SetOk Ω rSetL setL := by
  intro mg W c S H σ v k w x y z Q hr hv hk hw h
  unfold setL at h
  split at h
  · rename_i n i d
    split at h
    · rename_i ds e
      split at h
      · rename_i j hj
        obtain ⟨a, h1, h2⟩ := hv
        subst h2
        cases hk
        obtain ⟨_, vs, q1, q2, q3⟩ := hr.ob n a _ h1 e
        refine ⟨a, vs, i, j, rfl, rfl, q1, by rw [← q3.length]; exact hj, ?_⟩
        exact h c _ (Nx.write hr h1 e (fun _ z => by cases z) ⟨vs.set j z, upd_same, by simpa using q2, RepL.set (Rep.keep (write_kp hr h1 e) _ _ hw) j (RepL.keep (write_kp hr h1 e) _ _ q3)⟩)
      · exact h.elim
    · exact h.elim
  · exact h.elim
theorem any_key {A : Addr → Prop} {H : Hp} (k : Key) : ∀ {kds : List (Key × D)} {kvs : List (Key × V)}, RepK A H (kds.map fun p => (keyD p.1, p.2)) kvs → (kds.any fun kv => decide (kv.1 = k)) = (kvs.any fun kv => decide (kv.1 = k))
  | [], _, h => by cases h; rfl
  | (j, d) :: kds, _, h => by
    generalize hl : (((j, d) :: kds).map fun p => (keyD p.1, p.2)) = l at h
    cases h with
    | nil => cases hl
    | cons h1 h2 =>
      rename_i k' d' v' ds' vs'
      simp only [List.map_cons, List.cons.injEq, Prod.mk.injEq] at hl
      obtain ⟨⟨e1, e2⟩, e3⟩ := hl
      have e4 : j = k' := Option.some.inj ((keyOf_keyD j).symm.trans ((congrArg keyOf e1).trans (keyOf_keyD k')))
      subst e4 e3
      rw [List.any_cons, List.any_cons, any_key k h2]
theorem rep_put {A : Addr → Prop} {H : Hp} {k : Key} {d : D} {v : V} (hd : Rep A H d v) : ∀ {kds : List (Key × D)} {kvs : List (Key × V)}, RepK A H (kds.map fun p => (keyD p.1, p.2)) kvs →
    RepK A H ((kds.map (fun kv => if kv.1 = k then (kv.1, d) else kv)).map fun p => (keyD p.1, p.2)) (kvs.map fun kv => if kv.1 = k then (kv.1, v) else kv)
  | [], _, h => by cases h; exact .nil
  | (j, e) :: kds, _, h => by
    generalize hl : (((j, e) :: kds).map fun p => (keyD p.1, p.2)) = l at h
    cases h with
    | nil => cases hl
    | cons h1 h2 =>
      rename_i k' d' v' ds' vs'
      simp only [List.map_cons, List.cons.injEq, Prod.mk.injEq] at hl
      obtain ⟨⟨e1, e2⟩, e3⟩ := hl
      have e4 : j = k' := Option.some.inj ((keyOf_keyD j).symm.trans ((congrArg keyOf e1).trans (keyOf_keyD k')))
      subst e4 e3 e2
      rw [List.map_cons, List.map_cons, List.map_cons]
      by_cases q : j = k
      · subst q
        simp only [if_true]
        exact .cons hd (rep_put hd h2)
      · simp only [if_neg q]
        exact .cons h1 (rep_put hd h2)
theorem RepK.append {A : Addr → Prop} {H : Hp} : ∀ {a b : List (D × D)} {x y : List (Key × V)}, RepK A H a x → RepK A H b y → RepK A H (a ++ b) (x ++ y)
  | _, _, _, _, .nil, s => s
  | _, _, _, _, .cons h r, s => .cons h (RepK.append r s)
theorem putK_rep {A : Addr → Prop} {H : Hp} {k : Key} {d : D} {v : V} (hd : Rep A H d v) {kds : List (Key × D)} {kvs : List (Key × V)} (h : RepK A H (kds.map fun p => (keyD p.1, p.2)) kvs) :
    RepK A H ((putKD kds k d).map fun p => (keyD p.1, p.2)) (putK kvs k v) := by
  unfold putKD putK
  rw [any_key k h]
  split
  · exact rep_put hd h
  · rw [List.map_append]; exact h.append (.cons hd .nil)
theorem setD_ok {X : Cx} : SetOk Ω (fun x y z H Q => ∃ a H', x = .ref a ∧ DPut H a y z H' ∧ Q H') setD := by
  intro mg W c S H σ v k w x y z Q hr hv hk hw h
  unfold setD at h
  split at h
  · rename_i n i d
    split at h
    · rename_i kds kk e e2
      split at h
      · rename_i hl
        obtain ⟨a, h1, h2⟩ := hv
        subst h2
        obtain ⟨_, kvs, q1, q2, q3⟩ := hr.ob n a _ h1 e
        have ek := keyOf_eq e2
        subst ek
        have e3 : y = kV kk := rep_key (A := c.A) (H := H) hk
        subst e3
        have hl' : kvs.length < sizeLine := by rw [← q3.length]; simpa using hl
        refine ⟨a, _, rfl, DPut.k q1 hl', ?_⟩
        exact h c _ (Nx.write hr h1 e (fun _ z => by cases z) ⟨putK kvs kk z, upd_same, Nat.le_trans (length_putK _ _ _) hl', putK_rep (Rep.keep (write_kp hr h1 e) _ _ hw) (RepK.keep (write_kp hr h1 e) _ _ q3)⟩)
      · exact h.elim
    · exact h.elim
  · exact h.elim
theorem put_r {mg : Str → Option Value} {t : TSet} {p : Val → Val → Val → Sto → R Unit} (hp : SetOk Ω t p) {fo fi fe : Ex} {D : Ends} {σ : L2.St} {H : Hp} (h : tS Ω mg W (sPut p fo fi fe) D σ H) :
    tAsg (tE Ω mg W fe) (gSub (tE Ω mg W fo) (tE Ω mg W fi) t) D σ H := by
  obtain ⟨c, ρ, S, hr, he, q⟩ := h
  refine ⟨c, ρ, S, hr, he, (Aft.st hr he q).mono fun w c1 S1 H1 x1 h1 z hz => ?_⟩
  have he1 := he.keep hr x1
  refine ⟨c1, ρ, S1, x1.rel, he1, (Aft.st x1.rel he1 h1).mono fun v c2 S2 H2 x2 h2 x hx => ?_⟩
  have he2 := he1.keep x1.rel x2
  refine ⟨c2, ρ, S2, x2.rel, he2, (Aft.st x2.rel he2 h2).mono fun k c3 S3 H3 x3 h3 y hy => ?_⟩
  have he3 := he2.keep x2.rel x3
  exact hp mg W c3 S3 H3 σ v k w x y z _ x3.rel (hx.keep x2.rel x3) hy ((hz.keep x1.rel x2).keep x2.rel x3) ((Aft.st x3.rel he3 h3).mono fun _ c4 S4 H4 x4 h4 => h4 c4 σ H4 (Nx.refl x4.rel) (he3.keep x3.rel x4))
theorem ss_setL {o i e : Expr} {fo fi fe : Ex} {pos' : Pos} (ho : SE X W o fo) (hi : SE X W i fi) (he : SE X W e fe)
    (h : PS X (.Assign [.Subscript o i pos'] e pos) (tAsg (tE X.K X.mg W fe) (gSub (tE X.K X.mg W fo) (tE X.K X.mg W fi) rSetL))) : SS X W (.Assign [.Subscript o i pos'] e pos) (sPut setL fo fi fe) := PS.imp h fun D σ H q => put_r setL_ok q
theorem ss_setD (hu : X.A.units + 1 < cLine) {o i e : Expr} {fo fi fe : Ex} {pos' : Pos} (ho : SE X W o fo) (hi : SE X W i fi) (he : SE X W e fe)
    (hs : swapsWith e (some (.Subscript o i pos')) pos.line X.env = pure false := by rfl) : SS X W (.Assign [.Subscript o i pos'] e pos) (sPut setD fo fi fe) := PS.imp (ps_dput hu ho hi he hs) fun D σ H q => put_r (setD_ok (X := X)) q
theorem noX_r {mg : Str → Option Value} {α β : Type} {c : Cor Ω} {S : Sto} {H : Hp} {σ : L2.St} (hr : Rel c S H) {r : R α} {k : α → Sto → R Ev} {Q : L2.St → Hp → Prop} (h : AftG c S H ((r.noX).bind k) Q) :
    Aft mg W c S σ H r fun a c1 S1 H1 => AftG c1 S1 H1 (k a S1) Q := by
  cases r with
  | ok a S1 => exact fun c1 H1 x => AftG.later hr x h
  | exc x S' => exact h.elim
  | bad => exact h.elim
theorem sg_sub {o i : Expr} {fo fi : Ex} {t : TSet} {p : Val → Val → Val → Sto → R Unit} (ho : SE X W o fo) (hi : SE X W i fi) (hp : SetOk X.K t p) (h : PG X (.Subscript o i pos) (gSub (tE X.K X.mg W fo) (tE X.K X.mg W fi) t)) : SG X (.Subscript o i pos) (gSb p fo fi) :=
  PG.imp h fun u σ H Q ⟨c, ρ, S, w, hr, he, hv, q⟩ => by
    refine ⟨c, ρ, S, hr, he, (noX_r (β := Val) hr q).mono fun v c2 S2 H2 x2 h2 x hx => ?_⟩
    refine ⟨c2, ρ, S2, x2.rel, he.keep hr x2, (noX_r (β := Val) x2.rel h2).mono fun k c3 S3 H3 x3 h3 y hy => ?_⟩
    refine hp X.mg (fun _ _ _ _ => False) c3 S3 H3 σ v k w x y u _ x3.rel (hx.keep x2.rel x3) hy ((hv.keep hr x2).keep x2.rel x3) ?_
    revert h3
    generalize p v k w S3 = r
    cases r with
    | ok a S4 => exact fun h3 c4 H4 x4 => h3 c4 σ H4 x4 (((he.keep hr x2).keep x2.rel x3).keep x3.rel x4)
    | exc _ _ => exact fun h3 => h3.elim
    | bad => exact fun h3 => h3
end
/-! ### while -/
def whileN (t : Te) (g : Blk) : Nat → Blk
  | 0 => fun _ _ => .bad
  | n + 1 => fun ρ S => (t ρ S).st ρ fun b S1 => match b with
    | false => .ok (.nx ρ) S1
    | true => match g ρ S1 with
      | .ok (.nx ρ') S' => whileN t g n ρ' S'
      | .ok (.ct ρ') S' => whileN t g n ρ' S'
      | .ok (.bk ρ') S' => .ok (.nx ρ') S'
      | r => r
theorem ss_while {X : Cx} {W : WX} {pos : Pos} {e : Expr} {body : List Stmt} {t : Te} {g : Blk} (n : Nat) (hp : PassesOwn (model X.prog X.w) X.A X.env X.xe) (ht : ST X W e t) (hg : SSs X W body g) : SS X W (.While e body [] pos) (whileN t g n) :=
  PS.imp (ps_while hp ht hg) fun D σ H ⟨c, ρ, S, hr, he, q⟩ => by
    refine ⟨fun m σ H => ∃ (c : Cor X.K) (ρ : Ev) (S : Sto), Rel c S H ∧ RepE c H ρ σ ∧ AftS X.mg W c S H (whileN t g m ρ S) D, ⟨n, c, ρ, S, hr, he, q⟩, ?_⟩
    rintro m σ H ⟨c, ρ, S, hr, he, q⟩
    cases m with
    | zero => exact q.elim
    | succ m =>
      refine ⟨c, ρ, S, hr, he, (Aft.st hr he q).mono fun b c1 S1 H1 x1 h1 => ?_⟩
      have he1 := he.keep hr x1
      cases b with
      | false => exact iteF (h1 c1 σ H1 (Nx.refl x1.rel) he1)
      | true =>
        refine iteT ⟨fun σ' H' => ∃ (c : Cor X.K) (ρ : Ev) (S : Sto), Rel c S H' ∧ RepE c H' ρ σ' ∧ AftS X.mg W c S H' (whileN t g m ρ S) D, fun σ' H' z => ⟨m, Nat.lt_succ_self m, z⟩, c1, ρ, S1, x1.rel, he1, ?_⟩
        revert h1
        simp only
        cases g ρ S1 with
        | ok fl S' =>
          cases fl with
          | nx ρ' => exact fun h1 c2 σ2 H2 x2 e2 => ⟨c2, ρ', S', x2.rel, e2, AftS.later x1.rel x2 h1⟩
          | ct ρ' => exact fun h1 c2 σ2 H2 x2 e2 => ⟨c2, ρ', S', x2.rel, e2, AftS.later x1.rel x2 h1⟩
          | bk ρ' => exact fun h1 => h1
          | rt v => exact fun h1 => h1
          | ex z ρ' => exact fun h1 => h1
        | exc z S' => exact fun h1 => h1
        | bad => exact fun h1 => h1
/-! ### for -/
structure WD (c : Cor Ω) (S : Sto) (H : Hp) (ds : List D) (J : It) : Prop where
  walk : Walk J ds.length (fun H' => ∀ a o, H a = some o → ¬ live c S a → H' a = some o)
    (fun i H1 x H2 => ∃ d, ds[i]? = some d ∧ (H2 = H1 ∨ ∃ T vs, H1 T = none ∧ H2 = upd H1 T (.tup vs)) ∧ ∀ A : Addr → Prop, (∀ a o, H a = some o → A a → c.A a) → Rep A H2 d x)
  len : ds.length ≤ sizeLine
abbrev Iy := Ev → Sto → R (List D)
def tI (Ω : PySem.W.Frag) (mg : Str → Option Value) (W : WX) (f : Iy) : TI := fun σ H R' => ∃ (c : Cor Ω) (ρ : Ev) (S : Sto), Rel c S H ∧ RepE c H ρ σ ∧ Aft mg W c S σ H (f ρ S) fun ds c' S' H' => ∀ J, WD c' S' H' ds J → R' J H'
abbrev SI (X : Cx) (W : WX) (tg e : Expr) (f : Iy) : Prop := PI X tg e (tI X.K X.mg W f)
theorem PI.imp {X : Cx} {tg e : Expr} {t t' : TI} (h : PI X tg e t) (hi : ∀ σ H R, t' σ H R → t σ H R) : PI X tg e t' := ⟨fun pins s σ H R I hw => h.run pins s σ H R I (hi σ H R hw)⟩
theorem PI.or {X : Cx} {tg e : Expr} {t t' : TI} (h : PI X tg e t) (h' : PI X tg e t') : PI X tg e (fun σ H R => t σ H R ∨ t' σ H R) := ⟨fun pins s σ H R I hw => by
  rcases hw with hw | hw
  · exact h.run pins s σ H R I hw
  · exact h'.run pins s σ H R I hw⟩
def forL (tg : Tg) (g : Blk) : List D → Blk
  | [], ρ, S => .ok (.nx ρ) S
  | d :: ds, ρ, S => ((tg (.d d) ρ S).noX).st ρ fun ρ1 S1 => match g ρ1 S1 with
    | .ok (.nx ρ') S' => forL tg g ds ρ' S'
    | .ok (.ct ρ') S' => forL tg g ds ρ' S'
    | .ok (.bk ρ') S' => .ok (.nx ρ') S'
    | r => r
def sFor (fi : Iy) (tg : Tg) (g : Blk) : Blk := fun ρ S => (fi ρ S).st ρ fun ds S1 => forL tg g ds ρ S1
theorem for_r {mg : Str → Option Value} {W : WX} {fi : Iy} {t : Tg} {g : Blk} {D : Ends} {σ : L2.St} {H : Hp} (h : tS Ω mg W (sFor fi t g) D σ H) : tFor (tI Ω mg W fi) (tG Ω t) (tS Ω mg W g) D σ H := by
    obtain ⟨c, ρ, S, hr, he, q⟩ := h
    refine ⟨c, ρ, S, hr, he, (Aft.st hr he q).mono fun ds c1 S1 H1 x1 h1 J wd => ?_⟩
    have he1 := he.keep hr x1
    have r1 := x1.rel
    refine for_it wd.walk (fun i σ H => ∃ c' ρ' S', Nx c1 S1 H1 c' S' H ∧ RepE c' H ρ' σ ∧ AftS mg W c' S' H (forL t g (ds.drop i) ρ' S') D) ⟨c1, ρ, S1, Nx.refl r1, he1, h1⟩ (fun i σ H _ ⟨c', ρ', S', x, _⟩ => x.fr) ?_ ?_
    · rintro i x σ2 H2 H3 hi ⟨c', ρ', S', x2, e2, q2⟩ ⟨d, hd, hg, hrep⟩
      have hx3 : Nx c' S' H2 c' S' H3 := by
        rcases hg with rfl | ⟨T, vs, hT, rfl⟩
        · exact Nx.refl x2.rel
        · exact Nx.new x2.rel hT
      have hdrop : ds.drop i = d :: ds.drop (i + 1) := by
        obtain ⟨hl, e⟩ := List.getElem?_eq_some_iff.mp hd
        rw [List.drop_eq_getElem_cons hl, e]
      rw [hdrop] at q2
      have q3 := AftS.later x2.rel hx3 q2
      have y := x2.trans r1 hx3
      refine ⟨c', ρ', S', .d d, hx3.rel, e2.keep x2.rel hx3, hrep c'.A (fun a o ha z => by
        rcases x2.grow a z with z | z
        · exact z
        · rw [ha] at z; cases z), ?_⟩
      revert q3
      simp only [forL]
      cases t (.d d) ρ' S' with
      | exc _ _ => exact fun q3 => q3.elim
      | bad => exact fun q3 => q3.elim
      | ok ρ1 S2 =>
        intro q3 c4 σ4 H4 x4 e4
        have q4 := AftS.later hx3.rel x4 q3
        refine ⟨c4, ρ1, S2, x4.rel, e4, ?_⟩
        revert q4
        simp only [R.noX, R.st]
        cases g ρ1 S2 with
        | ok fl S5 =>
          cases fl with
          | nx ρ' => exact fun h1 c5 σ5 H5 x5 e5 => ⟨c5, ρ', S5, (y.trans r1 x4).trans r1 x5, e5, AftS.later x4.rel x5 h1⟩
          | ct ρ' => exact fun h1 c5 σ5 H5 x5 e5 => ⟨c5, ρ', S5, (y.trans r1 x4).trans r1 x5, e5, AftS.later x4.rel x5 h1⟩
          | bk ρ' => exact fun h1 => h1
          | rt v => exact fun h1 => h1
          | ex z ρ' => exact fun h1 => h1
        | exc z S' => exact fun h1 => h1
        | bad => exact fun h1 => h1
    · rintro σ2 H2 ⟨c', ρ', S', x2, e2, q2⟩
      rw [List.drop_length] at q2
      exact q2 c' σ2 H2 (Nx.refl x2.rel) e2
theorem ss_for {X : Cx} {W : WX} {pos : Pos} {tg e : Expr} {body : List Stmt} {fi : Iy} {t : Tg} {g : Blk} (hp : PassesOwn (model X.prog X.w) X.A X.env X.xe) (hc : X.calm = true) (hi : SI X W tg e fi) (ht : SG X tg t) (hg : SSs X W body g)
    (hs : ∀ x, foldedSetIterable e X.env x = pure x := by intro _; rfl) : SS X W (.For tg e body [] pos) (sFor fi t g) :=
  PS.imp (ps_for hp hc hi ht hg hs) fun D σ H h => for_r h
end DL

namespace DL
open PySem PySem.Spec PyProof.Rows L2
open Sem (wp)
open AutoSeq1 (wpAny_loadPart')
/-! ### enumerate(tuple) -/
theorem meets_enum1 {v : Value} {o : Obj} {H : Heap → Prop} (B : Begins v o H) :
    Meets (Builtin.«enumerate.__new__» ⟨[.type "enumerate", v], []⟩) (fun _ R s => H s.heap ∧
      R (.ok (.ret (.ref (s.heap.push o).objs.size))) { s with heap := (s.heap.push o).push { cls := .type "enumerate", data := .fields #[.none, .bool false, .ref s.heap.objs.size, rawInt 0, .none, .none] } }) :=
  .of_wp fun prog w A R s h => by
    obtain ⟨hp, g, d, tk, os⟩ := s; obtain ⟨h1, h⟩ := h
    have hsub := sub_enumerate
    have q1 : ∀ {A' : Around} {E : Value → Shared → Prop} {Q : Value → Shared → Prop}, Q (.ref hp.objs.size) ⟨hp.push o, g, d, tk, os⟩ → wpAny (model prog w) A' (pyIter v) Q E ⟨hp, g, d, tk, os⟩ :=
      fun q => B.iter prog w _ _ ⟨hp, g, d, tk, os⟩ _ h1 q
    wp_walk using q1
    refine wpAny_stack_any fun st => wpAny_pure ?_
    split
    · rename_i c _ _ _ _ _
      cases (c == Value.type "enumerate")
      · wp_walk using q1
        exact ⟨_, rfl, h⟩
      · wp_walk using q1
        exact ⟨_, rfl, h⟩
    · wp_walk using q1
      exact ⟨_, rfl, h⟩
theorem enum_begins1 {prog : Program} {w : World} {A : Around} {E : Value → Shared → Prop} {s : Shared} {v : Value} {o : Obj} {H : Heap → Prop} {Q : Value → Shared → Prop} (B : Begins v o H) (h1 : H s.heap)
    (h : ∀ h', IsEnum h' (s.heap.objs.size + 1) s.heap.objs.size 0 .none → h'.get? s.heap.objs.size = some o → h'.objs.size = s.heap.objs.size + 2 →
      (∀ b o, s.heap.get? b = some o → h'.get? b = some o) → Q (.ref (s.heap.objs.size + 1)) { s with heap := h' }) :
    wpAny (model prog w) A (call (.type "enumerate") [v]) Q E s := by
  refine callType_new F.called_enumerate (by decide) (F.typeCall_enumerate_1 _) (F.newCall_enumerate_1 _) (fun obj => F.args_object_init_2 obj _) F.entry_enumerate_new
    (meets_enum1 B) ⟨h1, ?_⟩
  have hz : (s.heap.push o).objs.size = s.heap.objs.size + 1 := Heap.size_push ..
  show _ ∧ _
  rw [hz]
  have he : IsEnum ((s.heap.push o).push { cls := .type "enumerate", data := .fields #[.none, .bool false, .ref s.heap.objs.size, rawInt 0, .none, .none] }) (s.heap.objs.size + 1) s.heap.objs.size 0 .none := by
    have := Heap.get?_push_size (s.heap.push o) (o := { cls := .type "enumerate", data := .fields #[.none, .bool false, .ref s.heap.objs.size, rawInt 0, .none, .none] }) rfl
    rw [hz] at this; exact this
  refine ⟨⟨_, he, rfl⟩, h _ he (Heap.get?_push_of_some _ (Heap.get?_push_size _ B.free)) (by rw [Heap.size_push, hz]) fun b o x => Heap.get?_push_of_some _ (Heap.get?_push_of_some _ x)⟩
/-- the tuple at a, each item in a new pair -/
def IteT (K : PySem.W.Frag) (a : Addr) : It :=
  ⟨fun i H => ∃ (xs : List V) (x : V), SqT K H a xs ∧ xs[i]? = some x, fun i H v H' => ∃ T x, v = .ref T ∧ H T = none ∧ H' = upd H T (.tup [.int (i : Nat), x]) ∧ ∀ xs, SqT K H a xs → xs[i]? = some x, fun i H => ∃ xs : List V, SqT K H a xs ∧ xs.length = i⟩
theorem turn_enumT {P : Program} {w : World} {K : PySem.W.Frag} {elts : List Expr} {kk : Nat} {tpos : Pos} (a e it : Addr) :
    Turn P w K (.Tuple elts kk tpos) (IteT K a) [e, it] e (fun i h => (∃ old, IsEnum h e it ((i : Nat) : Int) old) ∧ h.IsTupleIter it a i ∧ e ≠ it) where
  mem := by simp
  obj := fun i h st b hb => by
    obtain ⟨⟨old, he⟩, ⟨o, ho, hc, hd⟩, _⟩ := st
    have e' : b = e ∨ b = it := by simpa using hb
    rcases e' with z | z
    · rw [z]; exact ⟨_, he, fun v q => nomatch q⟩
    · rw [z]; exact ⟨o, ho, fun v q => by rw [hd] at q; cases q⟩
  keep := fun i h h' st k => let ⟨⟨old, he⟩, hi, hne⟩ := st; ⟨⟨old, k e (by simp) _ he⟩, hi.at fun o q => k it (by simp) o q, hne⟩
  item := by
    intro X hP hw hK hc i pins s σ H E I hf st hg
    subst hP hw hK
    obtain ⟨⟨old, he⟩, hit, hne⟩ := st
    obtain ⟨xs, x, hq, hx⟩ := hg
    obtain ⟨its, rv, p, hz⟩ := I.tuple hq
    obtain ⟨u, hu, ru⟩ := rv.get hx
    have hel : e < s.heap.objs.size := Heap.lt_size he
    have hil : it < s.heap.objs.size := by obtain ⟨_, q, _⟩ := hit; exact Heap.lt_size q
    have hai : a ≠ it := fun z => by
      obtain ⟨o, q1, q2, _⟩ := hit
      obtain ⟨o', p1, p2, _⟩ := p
      rw [z, q1] at p1; cases p1; rw [q2] at p2; exact absurd p2 (by decide)
    have hae : a ≠ e := fun z => by
      obtain ⟨o', p1, p2, _⟩ := p
      rw [z] at p1
      have he' : s.heap.get? e = some _ := he
      rw [he'] at p1; cases p1; exact absurd (show Value.type "enumerate" = Value.type "tuple" from p2) (by decide)
    have D := Draws.tuple (prog := X.prog) (w := X.w) (A := X.A.in1) (by simpa using I.ok.hd hc) it a hai its.toArray
    have hlt : i < its.toArray.size := by
      have := (List.getElem?_eq_some_iff.mp hu).1
      simpa using this
    refine wpAny_pyNext_enum_itemD D he ⟨hit, p⟩ hlt hne (by simp; exact ⟨hne, fun z => hae z.symm⟩) fun x1 h' tk hP ho hit' hT hsz hk => ?_
    have hx1 : x1 = u := by
      have h1 : its.toArray[i]? = some u := by simpa using hu
      exact Option.some.inj (hP.symm.trans h1)
    subst hx1
    refine ⟨_, rfl, wpAny_letOwnedTupleGo_enum (s := { s with heap := h', toks := tk + 1 }) ho fun h'' he' sb => ?_⟩
    have hT2 : h''.get? s.heap.objs.size = some { cls := .type "tuple", data := .seq #[.int i tk, x1] } := (sb.2 _ (Nat.ne_of_gt hel)).trans hT
    have new : ObjOk X.prog X.w (upd H s.heap.objs.size (.tup [.int (i : Nat), x])) h'' s.heap.objs.size (.tup [.int (i : Nat), x]) :=
      ⟨by show 2 ≤ sizeLine; decide, [.int i tk, x1], .cons ⟨_, rfl⟩ (.cons ru .nil), ⟨_, hT2, rfl, _, rfl⟩⟩
    have I1 : Inv X pins σ (upd H s.heap.objs.size (.tup [.int (i : Nat), x])) { s with heap := h'', toks := tk + 1 } :=
      I.turnedNew (ch := [e, it]) (fun b ob hb q => (sb.2 b (fun z => hb (by simp [z]))).trans (hk b ob (fun z => hb (by simp [z])) (fun z => hb (by simp [z])) q)) hf (Nat.le_refl _) new
    refine ⟨.ref s.heap.objs.size, _, I1, rfl, ⟨_, x, rfl, I.hok.fresh (Nat.le_refl _), rfl, fun ys hy => by rw [I.tuple_inj hy hq]; exact hx⟩, ⟨⟨x1, ?_⟩, hit'.1.at fun o q => (sb.2 it (Ne.symm hne)).trans q, hne⟩, fun b hb => ?_⟩
    · have e1 : ((i + 1 : Nat) : Int) = (i : Int) + 1 := by omega
      rw [e1]; exact he'
    · have hb' : b < s.heap.objs.size := by
        have e' : b = e ∨ b = it := by simpa using hb
        rcases e' with z | z
        · rw [z]; exact hel
        · rw [z]; exact hil
      rw [upd_ne (Nat.ne_of_lt hb')]
      exact (hf b hb).1
  done := by
    intro X hP hw hK hc i pins s σ H E I hf st hg
    subst hP hw hK
    obtain ⟨⟨old, he⟩, hit, hne⟩ := st
    obtain ⟨xs, hq, hx⟩ := hg
    obtain ⟨its, rv, p, hz⟩ := I.tuple hq
    obtain ⟨f0, f1, f2, f3, f4, f5⟩ := hf it (by simp)
    have hl := rv.length
    have hai : a ≠ it := fun z => by
      obtain ⟨o, q1, q2, _⟩ := hit
      obtain ⟨o', p1, p2, _⟩ := p
      rw [z, q1] at p1; cases p1; rw [q2] at p2; exact absurd p2 (by decide)
    have D := Draws.tuple (prog := X.prog) (w := X.w) (A := X.A.in1) (by simpa using I.ok.hd hc) it a hai its.toArray
    have hn : i = its.toArray.size := by simp; omega
    subst hn
    exact wpAny_pyNext_enum_endD D he ⟨hit, p⟩ fun h' eb => ⟨rfl, I.turned (t' := s.toks) (fun b o hb q => eb b o hb q) f0 f1 f3 f4 f5⟩
  self := fun A i s Q E st h => let ⟨⟨_, he⟩, _⟩ := st; wpAny_pyIter_enum he h
def iEnumT (K : PySem.W.Frag) (ta : TA) : TI := fun σ H R => ta σ H fun vs H1 => ∃ a xs, vs = [.ref a] ∧ SqT K H1 a xs ∧ R (IteT K a) H1
theorem pi_enumT {X : Cx} {e : Expr} {ta : TA} {p pos tpos : Pos} {elts : List Expr} {kk : Nat} (hg : Gl X "enumerate") (hm : X.mg "enumerate" = none) (ha : PA X [e] ta) (hs : starEach [e] X.env = [(false, eval e X.env)] := by rfl) :
    PI X (.Tuple elts kk tpos) (.Call (.Name "enumerate" p) [e] [] pos) (iEnumT X.K ta) := by
  refine ⟨fun pins s σ H R I h => ?_⟩
  refine Call_ (ld_blt I hg hm boot_enumerate (PyProof.Rows.callWith_type1 (thn (ha.run pos pins s σ H _ I h) fun us s1 ⟨vs, H1, I1, r1, q1⟩ => ?_) hs rfl))
  obtain ⟨a, xs, ex, hq, q⟩ := q1
  subst ex
  cases r1 with
  | cons r rr =>
    cases rr
    cases r
    obtain ⟨its, rv, p', hz⟩ := I1.tuple hq
    refine enum_begins1 (begins_tuple a its.toArray) p' fun h' he hit hsz hk => wpAny_pyIter_enum he ?_
    have I2 : Inv X pins σ H1 { s1 with heap := h' } := I1.kept (t' := s1.toks) hk
    refine ⟨s1.heap.objs.size + 1, [s1.heap.objs.size + 1, s1.heap.objs.size], _, _, H1, rfl, I2, turn_enumT a (s1.heap.objs.size + 1) s1.heap.objs.size, ⟨⟨.none, he⟩, ⟨_, hit, rfl, rfl⟩, Nat.succ_ne_self _⟩, fun b hb => ?_, q⟩
    have e' : b = s1.heap.objs.size + 1 ∨ b = s1.heap.objs.size := by simpa using hb
    have hle : s1.heap.objs.size ≤ b := by
      rcases e' with z | z
      · rw [z]; exact Nat.le_add_right _ _
      · rw [z]; exact Nat.le_refl _
    exact I1.fpOk hle (I1.hok.fresh hle)
theorem walk_enumT {K : PySem.W.Frag} {a : Addr} {xs : List V} : Walk (IteT K a) xs.length (fun H => SqT K H a xs) (YPair (fun i => some (.int (i : Nat))) (fun i => xs[i]?)) := by
  refine ⟨fun i _ hi q => ⟨xs, xs[i], q, by simp [hi]⟩, fun _ q => ⟨xs, q, rfl⟩, fun i H v H' _ q y => ?_⟩
  obtain ⟨T, x, h1, h2, h3, h4⟩ := y
  exact ⟨T, .int (i : Nat), x, h1, h2, h3, rfl, h4 xs q⟩
end DL

namespace DL
open PySem PySem.Spec PyProof.Rows L2
/-! ### what is walked -/
section
variable {c : Cor Ω} {S : Sto} {H : Hp}
theorem frame_kp (hr : Rel c S H) {H' : Hp} (g : ∀ a o, H a = some o → ¬ live c S a → H' a = some o) {A : Addr → Prop} (hA : ∀ a o, H a = some o → A a → c.A a) : Kp c.A H A H' :=
  ⟨fun a vs h => g a _ h fun z => hr.nt a vs h (hr.live z), fun a o h n => g a o h fun z => n (hr.live z), hA⟩
theorem wd_at (hr : Rel c S H) {ds : List D} {vs : List V} (r : RepL c.A H ds vs) (hl : vs.length ≤ sizeLine) {J : It} {G : Hp → Prop} (w : Walk J vs.length G (YAt vs)) (hG : ∀ H', (∀ a o, H a = some o → ¬ live c S a → H' a = some o) → G H') : WD c S H ds J := by
  refine ⟨?_, by rw [r.length]; exact hl⟩
  rw [r.length]
  refine w.mono hG fun i H1 x H2 hi hg y => ?_
  obtain ⟨rfl, hx⟩ := y
  obtain ⟨d, h1, h2⟩ := r.getV hx
  exact ⟨d, h1, .inl rfl, fun A hA => Rep.keep (frame_kp hr hg hA) _ _ h2⟩
theorem wd_pair (hr : Rel c S H) {ds : List D} (hl : ds.length ≤ sizeLine) {xs ys : Nat → Option V} {J : It} {G : Hp → Prop} (w : Walk J ds.length G (YPair xs ys)) (hG : ∀ H', (∀ a o, H a = some o → ¬ live c S a → H' a = some o) → G H')
    (hy : ∀ i x y, i < ds.length → xs i = some x → ys i = some y → ∃ d e, ds[i]? = some (.tuple [d, e]) ∧ Rep c.A H d x ∧ Rep c.A H e y) : WD c S H ds J := by
  refine ⟨w.mono hG fun i H1 v H2 hi hg y => ?_, hl⟩
  obtain ⟨T, x, y, rfl, hT, rfl, hx, hy'⟩ := y
  obtain ⟨d, e, h1, h2, h3⟩ := hy i x y hi hx hy'
  refine ⟨_, h1, .inr ⟨T, _, hT, rfl⟩, fun A hA => ?_⟩
  have k : Kp c.A H A (upd H1 T (.tup [x, y])) := by
    have k0 := frame_kp hr hg hA
    refine ⟨fun a vs h => ?_, fun a o h n => ?_, hA⟩
    · have := k0.tup a vs h; rw [upd_ne (ne_of_none this hT)]; exact this
    · have := k0.fr a o h n; rw [upd_ne (ne_of_none this hT)]; exact this
  exact .tup upd_same (by rw [sizeLine_eq]; show 2 ≤ 16777216; decide) (.cons (Rep.keep k _ _ h2) (.cons (Rep.keep k _ _ h3) .nil))
end
def itSeq (fe : Ex) : Iy := fun ρ S => (fe ρ S).bind fun v S1 => match v with
  | .d (.list ds) => .ok ds S1
  | .d (.tuple ds) => .ok ds S1
  | .scr ds => .ok ds S1
  | _ => .bad
def rangeD (lo : Int) (n : Nat) : List D := (List.range n).map fun i => .int (lo + (i : Nat))
def rgI (i j : Int) : Option (List D) := if -4611686018427387904 ≤ i ∧ i < 4611686018427387904 ∧ -4611686018427387904 ≤ j ∧ j < 4611686018427387904 ∧ j - i ≤ 1000000 then some (rangeD i (j - i).toNat) else none
def ofL (o : Option (List D)) (S : Sto) : R (List D) := match o with
  | some l => .ok l S
  | none => .bad
def itR1 (f : La) : Iy := fun ρ S => (f ρ S).bind fun vs S1 => match vs with
  | [.d (.int j)] => ofL (rgI 0 j) S1
  | _ => .bad
def itR2 (f : La) : Iy := fun ρ S => (f ρ S).bind fun vs S1 => match vs with
  | [.d (.int i), .d (.int j)] => ofL (rgI i j) S1
  | _ => .bad
/-- range(i, j, -1) -/
def rdownD (hi : Int) (n : Nat) : List D := (List.range n).map fun i => .int (hi + (i : Nat) * (-1))
def itR3 (f : La) : Iy := fun ρ S => (f ρ S).bind fun vs S1 => match vs with
  | [.d (.int i), .d (.int j), .d (.int (-1))] => if -4611686018427387904 ≤ i ∧ i < 4611686018427387904 ∧ -4611686018427387904 ≤ j ∧ j < 4611686018427387904 ∧ i - j ≤ 1000000 then .ok (rdownD i (i - j).toNat) S1 else .bad
  | _ => .bad
def enumD : Nat → List D → List D
  | _, [] => []
  | k, d :: r => .tuple [.int (k : Nat), d] :: enumD (k + 1) r
def itEnum (f : La) : Iy := fun ρ S => (f ρ S).bind fun vs S1 => match vs with
  | [.d (.list ds)] => .ok (enumD 0 ds) S1
  | [.d (.tuple ds)] => .ok (enumD 0 ds) S1
  | _ => .bad
def zipD : List D → List D → List D := List.zipWith fun d e => .tuple [d, e]
def itZip (f : La) : Iy := fun ρ S => (f ρ S).bind fun vs S1 => match vs with
  | [.d (.list ds), .d (.list es)] => .ok (zipD ds es) S1
  | [.d (.tuple ds), .d (.tuple es)] => .ok (zipD ds es) S1
  | _ => .bad
theorem enumD_length : ∀ (k : Nat) (ds : List D), (enumD k ds).length = ds.length
  | _, [] => rfl
  | k, d :: r => by rw [enumD, List.length_cons, List.length_cons, enumD_length]
theorem enumD_get : ∀ (k : Nat) (ds : List D) {i : Nat} {d : D}, ds[i]? = some d → (enumD k ds)[i]? = some (.tuple [.int ((k + i : Nat) : Int), d])
  | _, [], i, d, e => by simp at e
  | k, d :: r, 0, d', e => by simp at e; subst e; rfl
  | k, d :: r, i + 1, d', e => by
    rw [enumD, List.getElem?_cons_succ, enumD_get (k + 1) r (by simpa using e), show k + 1 + i = k + (i + 1) by omega]
section
variable {X : Cx} {W : WX} {tg : Expr}
theorem si_seq {e : Expr} {fe : Ex} (h : SE X W e fe) : SI X W tg e (itSeq fe) := PI.imp (PI.or (pi_list h) (pi_tup h)) fun σ H R' ⟨c, ρ, S, hr, he, q⟩ => by
  unfold itSeq at q
  have q := Aft.bind hr q
  cases e1 : fe ρ S with
  | exc x S' => exact .inl ⟨c, ρ, S, hr, he, by rw [e1] at q ⊢; exact q⟩
  | bad => rw [e1] at q; exact q.elim
  | ok v S1 =>
    rw [e1] at q
    cases v with
    | loc n => exact .inl ⟨c, ρ, S, hr, he, by rw [e1]; exact fun c1 H1 x1 => (q c1 H1 x1).elim⟩
    | scr ds =>
      refine .inl ⟨c, ρ, S, hr, he, ?_⟩
      rw [e1]
      rintro c1 H1 x1 u ⟨a, vs, rfl, h2, h4, h5⟩
      have hS : ∀ H', (∀ a o, H1 a = some o → ¬ live c1 S1 a → H' a = some o) → SqL X.K H' a vs := fun H' g => by
        rcases h2 with ⟨n, h3 | ⟨o, h3⟩⟩ | h2
        · exact .inl (.inl (g a _ h3 fun z => n (x1.rel.live z)))
        · exact .inl (.inr ⟨o, g a _ h3 fun z => n (x1.rel.live z)⟩)
        · exact h2 H'
      exact ⟨a, rfl, ⟨vs, hS H1 fun _ _ z _ => z⟩, q c1 H1 x1 c1 H1 (Nx.refl x1.rel) _ (wd_at x1.rel h5 h4 walk_list hS)⟩
    | d x =>
      cases x with
      | list ds =>
        refine .inl ⟨c, ρ, S, hr, he, ?_⟩
        rw [e1]
        intro c1 H1 x1 u hu
        cases hu with
        | lst n h1 h2 h3 =>
          exact ⟨_, rfl, ⟨_, SqL.of h1⟩, q c1 H1 x1 c1 H1 (Nx.refl x1.rel) _ (wd_at x1.rel h3 h2 walk_list fun H' g => SqL.of (g _ _ h1 fun z => n (x1.rel.live z)))⟩
      | tuple ds =>
        refine .inr ⟨c, ρ, S, hr, he, ?_⟩
        rw [e1]
        intro c1 H1 x1 u hu
        cases hu with
        | tup h1 h2 h3 =>
          exact ⟨_, rfl, ⟨_, SqT.of h1⟩, q c1 H1 x1 c1 H1 (Nx.refl x1.rel) _ (wd_at x1.rel h3 h2 walk_tup fun H' g => SqT.of (g _ _ h1 fun z => x1.rel.nt _ _ h1 (x1.rel.live z)))⟩
      | none => exact .inl ⟨c, ρ, S, hr, he, by rw [e1]; exact fun c1 H1 x1 => (q c1 H1 x1).elim⟩
      | bool b => exact .inl ⟨c, ρ, S, hr, he, by rw [e1]; exact fun c1 H1 x1 => (q c1 H1 x1).elim⟩
      | int b => exact .inl ⟨c, ρ, S, hr, he, by rw [e1]; exact fun c1 H1 x1 => (q c1 H1 x1).elim⟩
      | str b => exact .inl ⟨c, ρ, S, hr, he, by rw [e1]; exact fun c1 H1 x1 => (q c1 H1 x1).elim⟩
      | dict b => exact .inl ⟨c, ρ, S, hr, he, by rw [e1]; exact fun c1 H1 x1 => (q c1 H1 x1).elim⟩
theorem rangeD_get {lo : Int} {n i : Nat} (h : i < n) : (rangeD lo n)[i]? = some (.int (lo + (i : Nat))) := by simp [rangeD, h]
theorem rangeD_length (lo : Int) (n : Nat) : (rangeD lo n).length = n := by simp [rangeD]
theorem wd_range {c : Cor Ω} {S : Sto} {H : Hp} {lo : Int} {n : Nat} (hl : n ≤ sizeLine) : WD c S H (rangeD lo n) (Itr lo n) := by
  refine ⟨?_, by rw [rangeD_length]; exact hl⟩
  rw [rangeD_length]
  refine (walk_range (lo := lo) (n := n)).mono (fun _ _ => trivial) fun i H1 x H2 hi _ y => ?_
  obtain ⟨rfl, rfl⟩ := y
  exact ⟨_, rangeD_get hi, .inl rfl, fun A _ => .int _⟩
theorem rgI_some {i j : Int} {l : List D} (h : rgI i j = some l) : (-(2 ^ 62) ≤ i ∧ i < 2 ^ 62 ∧ -(2 ^ 62) ≤ j ∧ j < 2 ^ 62) ∧ (j - i).toNat ≤ sizeLine ∧ l = rangeD i (j - i).toNat := by
  unfold rgI at h
  split at h
  · rename_i hc
    refine ⟨by omega, by rw [sizeLine_eq]; omega, (Option.some.inj h).symm⟩
  · cases h
theorem si_range1 {a : Expr} {f : La} {p pos : Pos} (hg : Gl X "range") (hm : X.mg "range" = none) (ha : SA X W [a] f) (hs : starEach [a] X.env = [(false, eval a X.env)] := by rfl) : SI X W tg (.Call (.Name "range" p) [a] [] pos) (itR1 f) :=
  PI.imp (pi_range1 hg hm ha hs) fun σ H R' ⟨c, ρ, S, hr, he, q⟩ => by
    refine ⟨c, ρ, S, hr, he, (Aft.bind hr q).mono fun vs c1 S1 H1 x1 h1 us hus => ?_⟩
    split at h1
    · rename_i j
      cases hus with
      | cons h t =>
        cases t; cases h
        cases e : rgI 0 j with
        | none => rw [e] at h1; exact h1.elim
        | some l =>
          rw [e] at h1
          obtain ⟨hb, hl, rfl⟩ := rgI_some e
          rw [Int.sub_zero] at hl h1
          exact ⟨j, rfl, hb.2.2.1, hb.2.2.2, h1 c1 H1 (Nx.refl x1.rel) _ (wd_range hl)⟩
    · exact h1.elim
theorem si_range2 {a b : Expr} {f : La} {p pos : Pos} (hg : Gl X "range") (hm : X.mg "range" = none) (ha : SA X W [a, b] f) (hs : starEach [a, b] X.env = [(false, eval a X.env), (false, eval b X.env)] := by rfl) (hs2 : starEach [b] X.env = [(false, eval b X.env)] := by rfl) :
    SI X W tg (.Call (.Name "range" p) [a, b] [] pos) (itR2 f) :=
  PI.imp (pi_range2 hg hm ha hs hs2) fun σ H R' ⟨c, ρ, S, hr, he, q⟩ => by
    refine ⟨c, ρ, S, hr, he, (Aft.bind hr q).mono fun vs c1 S1 H1 x1 h1 us hus => ?_⟩
    split at h1
    · rename_i i j
      cases hus with
      | cons h t =>
        cases t with
        | cons h' t =>
          cases t; cases h; cases h'
          cases e : rgI i j with
          | none => rw [e] at h1; exact h1.elim
          | some l =>
            rw [e] at h1
            obtain ⟨hb, hl, rfl⟩ := rgI_some e
            exact ⟨i, j, rfl, hb, h1 c1 H1 (Nx.refl x1.rel) _ (wd_range hl)⟩
    · exact h1.elim
theorem si_enum {e : Expr} {f : La} {p pos tpos : Pos} {elts : List Expr} {kk : Nat} (hg : Gl X "enumerate") (hm : X.mg "enumerate" = none) (ha : SA X W [e] f) (hs : starEach [e] X.env = [(false, eval e X.env)] := by rfl) :
    SI X W (.Tuple elts kk tpos) (.Call (.Name "enumerate" p) [e] [] pos) (itEnum f) := PI.imp (PI.or (pi_enum hg hm ha hs) (pi_enumT hg hm ha hs)) fun σ H R' ⟨c, ρ, S, hr, he, q⟩ => by
  unfold itEnum at q
  have q := Aft.bind hr q
  cases e1 : f ρ S with
  | exc x S' => exact .inl ⟨c, ρ, S, hr, he, by rw [e1] at q ⊢; exact q⟩
  | bad => rw [e1] at q; exact q.elim
  | ok vs S1 =>
    rw [e1] at q
    have q : ∀ c' H', Nx c S H c' S1 H' → Aft X.mg W c' S1 σ H' _ _ := q
    have none : (∀ c' H', Nx c S H c' S1 H' → False) → (iEnum X.K (tA X.K X.mg W f) σ H R' ∨ iEnumT X.K (tA X.K X.mg W f) σ H R') := fun z => .inl ⟨c, ρ, S, hr, he, by rw [e1]; exact fun c1 H1 x1 => (z c1 H1 x1).elim⟩
    match vs, q with
    | [.d (.list ds)], q =>
      refine .inl ⟨c, ρ, S, hr, he, ?_⟩
      rw [e1]
      intro c1 H1 x1 us hus
      cases hus with
      | cons hu t =>
        cases t
        cases hu with
        | lst n h1 h2 h3 =>
          refine ⟨_, _, rfl, SqL.of h1, q c1 H1 x1 c1 H1 (Nx.refl x1.rel) _ (wd_pair x1.rel (by rw [enumD_length, h3.length]; exact h2) (by rw [enumD_length, h3.length]; exact walk_enum) (fun H' g => SqL.of (g _ _ h1 fun z => n (x1.rel.live z))) fun i x y hi hx hy => ?_)⟩
          cases hx
          obtain ⟨d, h4, h5⟩ := h3.getV hy
          exact ⟨_, d, by rw [enumD_get 0 ds h4, Nat.zero_add], .int _, h5⟩
    | [.d (.tuple ds)], q =>
      refine .inr ⟨c, ρ, S, hr, he, ?_⟩
      rw [e1]
      intro c1 H1 x1 us hus
      cases hus with
      | cons hu t =>
        cases t
        cases hu with
        | tup h1 h2 h3 =>
          refine ⟨_, _, rfl, SqT.of h1, q c1 H1 x1 c1 H1 (Nx.refl x1.rel) _ (wd_pair x1.rel (by rw [enumD_length, h3.length]; exact h2) (by rw [enumD_length, h3.length]; exact walk_enumT) (fun H' g => SqT.of (g _ _ h1 fun z => x1.rel.nt _ _ h1 (x1.rel.live z))) fun i x y hi hx hy => ?_)⟩
          cases hx
          obtain ⟨d, h4, h5⟩ := h3.getV hy
          exact ⟨_, d, by rw [enumD_get 0 ds h4, Nat.zero_add], .int _, h5⟩
    | [], q => exact none fun c1 H1 x1 => q c1 H1 x1
    | .loc _ :: _, q => exact none fun c1 H1 x1 => q c1 H1 x1
    | .scr _ :: _, q => exact none fun c1 H1 x1 => q c1 H1 x1
    | .d .none :: _, q => exact none fun c1 H1 x1 => q c1 H1 x1
    | .d (.bool _) :: _, q => exact none fun c1 H1 x1 => q c1 H1 x1
    | .d (.int _) :: _, q => exact none fun c1 H1 x1 => q c1 H1 x1
    | .d (.str _) :: _, q => exact none fun c1 H1 x1 => q c1 H1 x1
    | .d (.dict _) :: _, q => exact none fun c1 H1 x1 => q c1 H1 x1
    | .d (.list _) :: _ :: _, q => exact none fun c1 H1 x1 => q c1 H1 x1
    | .d (.tuple _) :: _ :: _, q => exact none fun c1 H1 x1 => q c1 H1 x1
end
/-! ### what a slot holds is no longer changed -/
theorem Nx.freeze {c : Cor Ω} {S : Sto} {H : Hp} (r : Rel c S H) {n : Nat} {a : Addr} {o : O} (ha : c.m[n]? = some a) (hs : S[n]? = some (some o)) : Nx c S H ⟨c.m, fun b => c.A b ∧ b ≠ a⟩ (S.set n none) H := by
  have hl : n < S.length := (List.getElem?_eq_some_iff.mp hs).1
  have k : Kp c.A H (fun b => c.A b ∧ b ≠ a) H := ⟨fun _ _ h => h, fun _ _ h _ => h, fun _ _ _ z => z.1⟩
  have st : ∀ m q, (S.set n none)[m]? = some (some q) → m ≠ n ∧ S[m]? = some (some q) := fun m q h => by
    by_cases e : n = m
    · subst e; rw [List.getElem?_set_self hl] at h; cases h
    · rw [List.getElem?_set_ne e] at h; exact ⟨fun z => e z.symm, h⟩
  have ne : ∀ m b q, c.m[m]? = some b → m ≠ n → S[m]? = some (some q) → b ≠ a := fun m b q h1 h2 h3 z => by
    subst z; exact h2 (r.inj m n b q o h1 ha h3 hs)
  refine ⟨List.prefix_refl _, fun _ h => .inl h.1, fun b h l => ⟨h, fun z => l (by subst z; exact ⟨n, o, ha, hs⟩)⟩, ⟨by simpa using r.len, ?_, ?_, fun b h => r.tr b h.1, fun b vs h z => r.nt b vs h z.1⟩, fun _ _ h _ => h, ?_⟩
  · intro m m' b q q' h1 h2 h3 h4
    exact r.inj m m' b q q' h1 h2 (st m q h3).2 (st m' q' h4).2
  · intro m b q h1 h3
    obtain ⟨g1, g2⟩ := st m q h3
    obtain ⟨z1, z2⟩ := r.ob m b q h1 g2
    refine ⟨⟨z1, ne m b q h1 g1 g2⟩, ?_⟩
    cases q with
    | lst ds => obtain ⟨vs, q1, q2, q3⟩ := z2; exact ⟨vs, q1, q2, RepL.keep k _ _ q3⟩
    | dic ds => obtain ⟨vs, q1, q2, q3⟩ := z2; exact ⟨vs, q1, q2, RepK.keep k _ _ q3⟩
  · rintro b ⟨m, q, h1, h3⟩
    exact .inl ⟨m, q, h1, (st m q h3).2⟩
def objD : O → D
  | .lst ds => .list ds
  | .dic kds => .dict (kds.map fun p => (keyD p.1, p.2))
theorem freeze_rep {c : Cor Ω} {S : Sto} {H : Hp} (r : Rel c S H) {n : Nat} {a : Addr} {o : O} (ha : c.m[n]? = some a) (hs : S[n]? = some (some o)) : Rep (fun b => c.A b ∧ b ≠ a) H (objD o) (.ref a) := by
  have k : Kp c.A H (fun b => c.A b ∧ b ≠ a) H := ⟨fun _ _ h => h, fun _ _ h _ => h, fun _ _ _ z => z.1⟩
  obtain ⟨_, h⟩ := r.ob n a o ha hs
  cases o with
  | lst ds => obtain ⟨vs, q1, q2, q3⟩ := h; exact .lst (fun z => z.2 rfl) q1 q2 (RepL.keep k _ _ q3)
  | dic ds => obtain ⟨vs, q1, q2, q3⟩ := h; exact .dic (fun z => z.2 rfl) (.inl q1) q2 (RepK.keep k _ _ q3)
def frzV (v : Val) (S : Sto) : R Val := match v with
  | .loc n => match S[n]? with
    | some (some o) => .ok (.d (objD o)) (S.set n none)
    | _ => .bad
  | v => .ok v S
/-- an expression's value, no longer changed -/
def eFrz (f : Ex) : Ex := fun ρ S => (f ρ S).bind frzV
theorem se_frz {X : Cx} {W : WX} {e : Expr} {f : Ex} (h : SE X W e f) : SE X W e (eFrz f) := PE.imp h fun σ H Q ⟨c, ρ, S, hr, he, q⟩ => by
  refine ⟨c, ρ, S, hr, he, (Aft.bind hr q).mono fun v c1 S1 H1 x1 h1 u hu => ?_⟩
  unfold frzV at h1
  split at h1
  · rename_i n
    split at h1
    · rename_i o ho
      obtain ⟨a, g1, rfl⟩ := hu
      exact h1 _ H1 (Nx.freeze x1.rel g1 ho) _ (freeze_rep x1.rel g1 ho)
    · exact h1.elim
  · exact h1 c1 H1 (Nx.refl x1.rel) _ hu
def sFrz (i : Nat) (g : Blk) : Blk := fun ρ S => match ρ[i]? with
  | some (some (.loc n)) => match S[n]? with
    | some (some o) => g (ρ.set i (some (.d (objD o)))) (S.set n none)
    | _ => .bad
  | _ => .bad
theorem ss_frz {X : Cx} {W : WX} {sts : List Stmt} {g : Blk} (i : Nat) (h : SSs X W sts g) : SSs X W sts (sFrz i g) := PSs.imp h fun D σ H ⟨c, ρ, S, hr, he, q⟩ => by
  unfold sFrz at q
  split at q
  · rename_i n e1
    split at q
    · rename_i o ho
      obtain ⟨u, g1, a, g2, rfl⟩ := he.at' i _ e1
      have x := Nx.freeze hr g2 ho
      refine ⟨_, _, _, x.rel, ?_, AftS.later hr x q⟩
      have he1 := he.keep hr x
      have hl : i < ρ.length := (List.getElem?_eq_some_iff.mp e1).1
      refine ⟨by simpa using he1.len, fun j v hj => ?_⟩
      by_cases z : i = j
      · subst z
        rw [List.getElem?_set_self hl] at hj
        cases hj
        exact ⟨_, g1, freeze_rep hr g2 ho⟩
      · rw [List.getElem?_set_ne z] at hj
        exact he1.at' j v hj
    · exact q.elim
  · exact q.elim
/-! ### the store is cut back -/
def cutV1 (n : Nat) : Val → Option Val
  | .loc k => if k < n then some (.loc k) else none
  | v => some v
def cutE (n : Nat) (ρ : Ev) : Ev := ρ.map fun o => o.bind (cutV1 n)
def sScope (g : Blk) : Blk := fun ρ S => match g ρ S with
  | .ok (.nx ρ') S' => .ok (.nx (cutE S.length ρ')) (S'.take S.length)
  | .ok (.bk ρ') S' => .ok (.bk (cutE S.length ρ')) (S'.take S.length)
  | .ok (.ct ρ') S' => .ok (.ct (cutE S.length ρ')) (S'.take S.length)
  | .ok (.rt v) S' => match cutV1 S.length v with
    | some v => .ok (.rt v) (S'.take S.length)
    | none => .bad
  | .ok (.ex x ρ') S' => .ok (.ex x (cutE S.length ρ')) (S'.take S.length)
  | r => r
section
variable {c c1 : Cor Ω} {S S1 : Sto} {H H1 : Hp}
theorem take_get {α : Type} {l : List α} {n i : Nat} {a : α} (h : (l.take n)[i]? = some a) : l[i]? = some a ∧ i < n := by
  rw [List.getElem?_take] at h
  split at h
  · exact ⟨h, by assumption⟩
  · cases h
theorem Nx.cut (r : Rel c S H) (x : Nx c S H c1 S1 H1) : Nx c S H ⟨c1.m.take S.length, c1.A⟩ (S1.take S.length) H1 := by
  have lv : ∀ a, live (⟨c1.m.take S.length, c1.A⟩ : Cor Ω) (S1.take S.length) a → live c1 S1 a := fun a ⟨n, o, h1, h2⟩ => ⟨n, o, (take_get h1).1, (take_get h2).1⟩
  refine ⟨?_, x.grow, x.lock, ⟨?_, ?_, ?_, x.rel.tr, x.rel.nt⟩, x.fr, fun a h => x.lv a (lv a h)⟩
  · show c.m <+: c1.m.take S.length
    obtain ⟨t, e⟩ := x.pre
    rw [← e, ← r.len, List.take_left]
    exact List.prefix_refl _
  · show (c1.m.take S.length).length = (S1.take S.length).length
    rw [List.length_take, List.length_take, x.rel.len]
  · intro n n' a o o' h1 h2 h3 h4
    exact x.rel.inj n n' a o o' (take_get h1).1 (take_get h2).1 (take_get h3).1 (take_get h4).1
  · intro n a o h1 h3
    obtain ⟨z1, z2⟩ := x.rel.ob n a o (take_get h1).1 (take_get h3).1
    exact ⟨z1, by cases o <;> exact z2⟩
theorem cutV1_rep {n : Nat} {v w : Val} {u : V} (h : VRep c1 H1 v u) (e : cutV1 n v = some w) : VRep (⟨c1.m.take n, c1.A⟩ : Cor Ω) H1 w u := by
  unfold cutV1 at e
  split at e
  · split at e
    · rename_i k hk
      cases e
      obtain ⟨a, h1, h2⟩ := h
      exact ⟨a, by show (c1.m.take n)[k]? = some a; rw [List.getElem?_take, if_pos hk]; exact h1, h2⟩
    · cases e
  · cases e
    cases v with
    | d x => exact h
    | loc n => rename_i hn; exact absurd rfl (hn n)
    | scr ds => exact h
theorem cutE_rep {n : Nat} {ρ : Ev} {σ : L2.St} (h : RepE c1 H1 ρ σ) : RepE (⟨c1.m.take n, c1.A⟩ : Cor Ω) H1 (cutE n ρ) σ := by
  refine ⟨by unfold cutE; rw [List.length_map]; exact h.len, fun i v e => ?_⟩
  unfold cutE at e
  rw [List.getElem?_map] at e
  obtain ⟨o, h1, h2⟩ := Option.map_eq_some_iff.mp e
  obtain ⟨w, h3, h4⟩ := Option.bind_eq_some_iff.mp h2
  subst h3
  obtain ⟨u, h5, h6⟩ := h.at' i w h1
  exact ⟨u, h5, cutV1_rep h6 h4⟩
end
theorem ss_scope {X : Cx} {W : WX} {sts : List Stmt} {g : Blk} (h : SSs X W sts g) : SSs X W sts (sScope g) := PSs.imp h fun D σ H ⟨c, ρ, S, hr, he, q⟩ => by
  refine ⟨c, ρ, S, hr, he, ?_⟩
  unfold sScope at q
  revert q
  cases g ρ S with
  | ok fl S' =>
    cases fl with
    | nx ρ' => exact fun q c' σ' H' x e => q _ σ' H' (Nx.cut hr x) (cutE_rep e)
    | bk ρ' => exact fun q c' σ' H' x e => q _ σ' H' (Nx.cut hr x) (cutE_rep e)
    | ct ρ' => exact fun q c' σ' H' x e => q _ σ' H' (Nx.cut hr x) (cutE_rep e)
    | ex z ρ' => exact fun q c' σ' H' cls d x e => q _ σ' H' cls d (Nx.cut hr x) (cutE_rep e)
    | rt v =>
      intro q c' H' u x hu
      cases e : cutV1 S.length v with
      | none => simp only [e] at q; exact q.elim
      | some w => simp only [e] at q; exact q _ H' u (Nx.cut hr x) (cutV1_rep hu e)
  | exc z S' => exact fun q => q
  | bad => exact fun q => q
end DL

namespace DL
open PySem PySem.Spec PyProof.Rows L2
/-! ### comprehensions -/
def wipeE (ρ : Ev) : List Nat → Ev
  | [] => ρ
  | v :: vs => (wipeE ρ vs).set v none
theorem wipe_rep {c : Cor Ω} {H : Hp} {ρ : Ev} {σ : L2.St} (h : RepE c H ρ σ) : ∀ vs : List Nat, RepE c H (wipeE ρ vs) (wipe σ vs)
  | [] => h
  | v :: vs => by
    have ih := wipe_rep h vs
    refine ⟨by show ((wipeE ρ vs).set v none).length = ((wipe σ vs).set v none).length; rw [List.length_set, List.length_set]; exact ih.len, fun i w e => ?_⟩
    have e : ((wipeE ρ vs).set v none)[i]? = some (some w) := e
    show ∃ u, ((wipe σ vs).set v none)[i]? = some (some u) ∧ VRep c H w u
    by_cases q : v = i
    · subst q
      by_cases hl : v < (wipeE ρ vs).length
      · rw [List.getElem?_set_self hl] at e; cases e
      · rw [List.getElem?_eq_none (by rw [List.length_set]; omega)] at e; cases e
    · rw [List.getElem?_set_ne q] at e
      obtain ⟨u, h1, h2⟩ := ih.at' i w e
      exact ⟨u, by rw [List.getElem?_set_ne q]; exact h1, h2⟩
theorem wipe_get (σ : L2.St) : ∀ (vs : List Nat) (i : Nat), (wipe σ vs)[i]? = if i ∈ vs then (σ[i]?).map (fun _ => none) else σ[i]?
  | [], i => by simp [wipe]
  | v :: vs, i => by
    show ((wipe σ vs).set v none)[i]? = _
    rw [List.getElem?_set, wipe_get σ vs i, wipe_length]
    by_cases q : v = i
    · subst q
      by_cases hl : v < σ.length
      · simp [hl]
      · simp [hl]
    · have q' : ¬ i = v := fun z => q z.symm
      simp [q, q']
theorem wipe_ext {σ σ' : L2.St} {vs : List Nat} (hl : σ'.length = σ.length) (h : ∀ i, i ∉ vs → σ'[i]? = σ[i]?) : wipe σ' vs = wipe σ vs := by
  apply List.ext_getElem?
  intro i
  rw [wipe_get, wipe_get]
  by_cases q : i ∈ vs
  · simp only [q, if_true]
    by_cases hi : i < σ.length
    · rw [List.getElem?_eq_getElem hi, List.getElem?_eq_getElem (hl ▸ hi)]; rfl
    · rw [List.getElem?_eq_none (by omega), List.getElem?_eq_none (by omega)]
  · simp only [q, if_false]; exact h i q
theorem wipe_wipe (σ : L2.St) (vs : List Nat) : wipe (wipe σ vs) vs = wipe σ vs := wipe_ext (wipe_length _ _) fun i hi => by rw [wipe_get, if_neg hi]
theorem wipe_set {σ : L2.St} {vs : List Nat} {i : Nat} (v : Option V) (hi : i ∈ vs) : wipe (σ.set i v) vs = wipe σ vs := wipe_ext (by simp) fun j hj => List.getElem?_set_ne (show i ≠ j from fun z => hj (by rw [← z]; exact hi))
/-- targets that touch the slots vs alone -/
def AftW (vs : List Nat) (σ : L2.St) (c : Cor Ω) (S : Sto) (H : Hp) (r : R Ev) (Q : L2.St → Hp → Prop) : Prop := match r with
  | .ok ρ S' => ∀ c' σ' H', Nx c S H c' S' H' → RepE c' H' ρ σ' → wipe σ' vs = wipe σ vs → Q σ' H'
  | _ => False
def tGw (Ω : PySem.W.Frag) (ws : List Nat) (g : Tg) : TG := fun u σ H Q => ∃ (c : Cor Ω) (ρ : Ev) (S : Sto) (v : Val), Rel c S H ∧ RepE c H ρ σ ∧ VRep c H v u ∧ AftW ws σ c S H (g v ρ S) Q
def tGsw (Ω : PySem.W.Frag) (ws : List Nat) (g : Tgs) : TGs := fun us σ H Q => ∃ (c : Cor Ω) (ρ : Ev) (S : Sto) (ds : List D), Rel c S H ∧ RepE c H ρ σ ∧ RepL c.A H ds us ∧ AftW ws σ c S H (g ds ρ S) Q
abbrev SGw (X : Cx) (ws : List Nat) (e : Expr) (g : Tg) : Prop := PG X e (tGw X.K ws g)
abbrev SGsw (X : Cx) (ws : List Nat) (es : List Expr) (g : Tgs) : Prop := PGs X es (tGsw X.K ws g)
section
variable {X : Cx} {W : WX} {pos : Pos} {ws : List Nat}
theorem AftW.later {c c1 : Cor Ω} {S S1 : Sto} {H H1 : Hp} {σ σ1 : L2.St} (hr : Rel c S H) (x : Nx c S H c1 S1 H1) (hw : wipe σ1 ws = wipe σ ws) {r : R Ev} {Q : L2.St → Hp → Prop} (h : AftW ws σ c S H r Q) : AftW ws σ1 c1 S1 H1 r Q := by
  cases r with
  | ok a S' => exact fun c' σ' H' y e z => h c' σ' H' (x.trans hr y) e (z.trans hw)
  | exc x S' => exact h
  | bad => exact h
theorem sgw_name {i : Nat} {x : Str} (hw : i ∈ ws) (hN : X.N.Nodup) (hi : X.N[i]? = some x) (hx : Loc X.env.scope x) (hf : X.fn x = true ∨ X.env.scope.names.lookup x = some .local := by first | exact .inl rfl | exact .inr rfl | assumption) : SGw X ws (.Name x pos) (gNm i) :=
  PG.imp (pg_name hN hi hx hf) fun u σ H Q ⟨c, ρ, S, v, hr, he, hv, q⟩ => q c _ H (Nx.refl hr) (he.set hv i) (wipe_set _ hw)
theorem sgsw_nil : SGsw X ws [] gsNil := PGs.imp pgs_nil fun us σ H Q ⟨c, ρ, S, ds, hr, he, hv, q⟩ => by
  cases hv with
  | nil => exact ⟨rfl, q c σ H (Nx.refl hr) he rfl⟩
  | cons _ _ => exact q.elim
theorem sgsw_cons {e : Expr} {es : List Expr} {g : Tg} {gs : Tgs} (h1 : SGw X ws e g) (h2 : SGsw X ws es gs)
    (hs : (assignEach (e :: es) X.env).map (·.2) = assign e X.env :: (assignEach es X.env).map (·.2) := by rfl) : SGsw X ws (e :: es) (gsCons g gs) := PGs.imp (pgs_cons h1 h2 hs) fun us σ H Q ⟨c, ρ, S, ds, hr, he, hv, q⟩ => by
  cases hv with
  | nil => exact q.elim
  | cons hd ht =>
    refine ⟨_, _, rfl, c, ρ, S, .d _, hr, he, hd, ?_⟩
    simp only [gsCons] at q
    revert q
    generalize g _ ρ S = r
    cases r with
    | ok ρ1 S1 => exact fun q c' σ' H' x e z => ⟨c', ρ1, S1, _, x.rel, e, RepL.keep (x.kp hr) _ _ ht, AftW.later hr x z q⟩
    | exc z S' => exact fun q => q
    | bad => exact fun q => q
theorem sgw_tup {es : List Expr} {k : Nat} {n : Nat} {gs : Tgs} (h : PG X (.Tuple es k pos) (gTup X.K n (tGsw X.K ws gs))) : SGw X ws (.Tuple es k pos) (gTp n gs) := PG.imp h fun u σ H Q ⟨c, ρ, S, v, hr, he, hv, q⟩ => by
  unfold gTp at q
  split at q
  · split at q
    · rename_i ds hl
      cases hv with
      | tup h1 h2 h3 => exact ⟨_, _, rfl, SqT.of h1, by rw [← h3.length]; exact hl, c, ρ, S, ds, hr, he, h3, q⟩
    · exact q.elim
  · exact q.elim
theorem sg_of {e : Expr} {g : Tg} (h : SGw X ws e g) : SG X e g := PG.imp h fun u σ H Q ⟨c, ρ, S, v, hr, he, hv, q⟩ => ⟨c, ρ, S, v, hr, he, hv, by
  revert q
  cases g v ρ S with
  | ok a S' => exact fun q c' σ' H' x e _ => q c' σ' H' x e
  | exc _ _ => exact fun q => q
  | bad => exact fun q => q⟩
end
def item (vs : List Nat) (tg : Tg) (tt : Te) (fe : Ex) (ρ : Ev) (d : D) (S : Sto) : R (Option D) := ((tg (.d d) (wipeE ρ vs) S).noX).bind fun ρ1 S1 => ((tt ρ1 S1).noX).bind fun b S2 => match b with
  | true => ((fe ρ1 S2).noX).bind fun v S3 => match v with
    | .d x => .ok (some x) S3
    | _ => .bad
  | false => .ok none S2
def compL (f : D → Sto → R (Option D)) : List D → Sto → R (List D)
  | [], S => .ok [] S
  | d :: ds, S => (f d S).bind fun o S1 => (compL f ds S1).bind fun r S2 => .ok (o.toList ++ r) S2
def tYesE : Te := fun _ S => .ok true S
/-- the items of a comprehension -/
def cmp (fi : Iy) (vs : List Nat) (tg : Tg) (tt : Te) (fe : Ex) : Ev → Sto → R (List D) := fun ρ S => (fi ρ S).bind fun ds S1 => compL (item vs tg tt fe ρ) ds S1
def eLc (fi : Iy) (vs : List Nat) (tg : Tg) (tt : Te) (fe : Ex) : Ex := fun ρ S => (cmp fi vs tg tt fe ρ S).bind fun r S2 => .ok (.d (.list r)) S2
def eLcM (fi : Iy) (vs : List Nat) (tg : Tg) (tt : Te) (fe : Ex) : Ex := fun ρ S => (cmp fi vs tg tt fe ρ S).bind fun r S2 => .ok (.loc S2.length) (S2 ++ [some (.lst r)])
theorem noX_ok {α : Type} {r : R α} {a : α} {S : Sto} (h : r.noX = .ok a S) : r = .ok a S := by
  cases r with
  | ok b S' => exact h
  | exc _ _ => cases h
  | bad => cases h
theorem bind_ok {α β : Type} {r : R α} {k : α → Sto → R β} {b : β} {S : Sto} (h : r.bind k = .ok b S) : ∃ a S1, r = .ok a S1 ∧ k a S1 = .ok b S := by
  cases r with
  | ok a S1 => exact ⟨a, S1, rfl, h⟩
  | exc _ _ => cases h
  | bad => cases h
theorem item_ok {vs : List Nat} {tg : Tg} {tt : Te} {fe : Ex} {ρ : Ev} {d : D} {S S' : Sto} {o : Option D} (h : item vs tg tt fe ρ d S = .ok o S') :
    ∃ ρ1 S1 b S2, tg (.d d) (wipeE ρ vs) S = .ok ρ1 S1 ∧ tt ρ1 S1 = .ok b S2 ∧ ((b = true ∧ ∃ x, fe ρ1 S2 = .ok (.d x) S' ∧ o = some x) ∨ (b = false ∧ o = none ∧ S' = S2)) := by
  unfold item at h
  obtain ⟨ρ1, S1, h1, h⟩ := bind_ok h
  obtain ⟨b, S2, h2, h⟩ := bind_ok h
  refine ⟨ρ1, S1, b, S2, noX_ok h1, noX_ok h2, ?_⟩
  cases b with
  | true =>
    obtain ⟨v, S3, h3, h⟩ := bind_ok h
    split at h
    · cases h; exact .inl ⟨rfl, _, noX_ok h3, rfl⟩
    · cases h
  | false => cases h; exact .inr ⟨rfl, rfl, rfl⟩
theorem item_noexc {vs : List Nat} {tg : Tg} {tt : Te} {fe : Ex} {ρ : Ev} {d : D} {S : Sto} : ∀ x S', item vs tg tt fe ρ d S ≠ .exc x S' := fun x S' h => by
  unfold item at h
  revert h
  cases (tg (.d d) (wipeE ρ vs) S) with
  | exc _ _ => intro h; cases h
  | bad => intro h; cases h
  | ok ρ1 S1 =>
    simp only [R.noX, R.bind]
    cases tt ρ1 S1 with
    | exc _ _ => intro h; cases h
    | bad => intro h; cases h
    | ok b S2 =>
      cases b with
      | false => intro h; cases h
      | true =>
        simp only
        cases fe ρ1 S2 with
        | exc _ _ => intro h; cases h
        | bad => intro h; cases h
        | ok v S3 => cases v <;> (intro h; cases h)
theorem compL_noexc {f : D → Sto → R (Option D)} (hf : ∀ d S x S', f d S ≠ .exc x S') : ∀ (ds : List D) (S : Sto) x S', compL f ds S ≠ .exc x S'
  | [], S, x, S', h => by cases h
  | d :: ds, S, x, S', h => by
    unfold compL at h
    revert h
    cases e : f d S with
    | exc y S1 => exact (hf d S y S1 e).elim
    | bad => intro h; cases h
    | ok o S1 =>
      simp only [R.bind]
      cases e2 : compL f ds S1 with
      | exc y S2 => exact (compL_noexc hf ds S1 y S2 e2).elim
      | bad => intro h; cases h
      | ok r S2 => intro h; cases h
/-- the new list, hidden from the code that makes its items -/
theorem Nx.poke {c0 : Cor Ω} {S0 : Sto} {H0 : Hp} {p : Addr} {o o' : HO} {c : Cor Ω} {S : Sto} {H : Hp} (hp : H0 p = none) (hA0 : c0.A p) (x : Nx c0 S0 (upd H0 p o) c S H) (r0 : Rel c0 S0 (upd H0 p o)) (nl0 : ¬ live c0 S0 p) (hH : H p = some o) (nt : ∀ vs, o ≠ .tup vs) (nt' : ∀ vs, o' ≠ .tup vs) : Nx c0 S0 (upd H0 p o') c S (upd H p o') := by
  have hA : c.A p := x.lock p hA0 nl0
  have nl : ¬ live c S p := fun z => by
    rcases x.lv p z with z | z
    · exact nl0 z
    · rw [upd_same] at z; cases z
  have k : Kp c.A H c.A (upd H p o') := ⟨fun b vs h => by rw [upd_ne (show b ≠ p from fun z => by subst z; rw [hH] at h; exact nt vs (Option.some.inj h))]; exact h, fun b q h z => by rw [upd_ne (show b ≠ p from fun y => z (by rw [y]; exact hA))]; exact h, fun _ _ _ z => z⟩
  refine ⟨x.pre, fun a h => ?_, x.lock, ⟨x.rel.len, x.rel.inj, fun n a q h1 h2 => ?_, fun a h => ?_, fun a vs h z => ?_⟩, fun a q h l => ?_, fun a h => ?_⟩
  · by_cases e : a = p
    · subst e; exact .inl hA0
    · rcases x.grow a h with z | z
      · exact .inl z
      · rw [upd_ne e] at z ⊢; exact .inr z
  · obtain ⟨z1, z2⟩ := x.rel.ob n a q h1 h2
    have hne : a ≠ p := fun z => nl (by subst z; exact ⟨n, q, h1, h2⟩)
    refine ⟨z1, ?_⟩
    cases q with
    | lst ds => obtain ⟨vs, q1, q2, q3⟩ := z2; exact ⟨vs, by rw [upd_ne hne]; exact q1, q2, RepL.keep k _ _ q3⟩
    | dic ds => obtain ⟨vs, q1, q2, q3⟩ := z2; exact ⟨vs, by rw [upd_ne hne]; exact q1, q2, RepK.keep k _ _ q3⟩
  · by_cases e : a = p
    · subst e; exact ⟨o', upd_same⟩
    · obtain ⟨q, z⟩ := x.rel.tr a h; exact ⟨q, by rw [upd_ne e]; exact z⟩
  · by_cases e : a = p
    · subst e; rw [upd_same] at h; exact nt' vs (Option.some.inj h)
    · rw [upd_ne e] at h; exact x.rel.nt a vs h z
  · by_cases e : a = p
    · subst e; rw [upd_same] at h ⊢; exact h
    · rw [upd_ne e] at h ⊢; exact x.fr a q (by rw [upd_ne e]; exact h) l
  · by_cases e : a = p
    · subst e; exact (nl h).elim
    · rcases x.lv a h with z | z
      · exact .inl z
      · rw [upd_ne e] at z ⊢; exact .inr z
/-- the context with the new list locked -/
def lockC (c : Cor Ω) (p : Addr) : Cor Ω := ⟨c.m, fun a => c.A a ∨ a = p⟩
theorem lock_rel {c : Cor Ω} {S : Sto} {H : Hp} (r : Rel c S H) {p : Addr} {o : HO} (hp : H p = none) (nt : ∀ vs, o ≠ .tup vs) : Rel (lockC c p) S (upd H p o) ∧ ¬ live (lockC c p) S p := by
  have na : ∀ a, c.A a → a ≠ p := fun a h e => by
    obtain ⟨q, z⟩ := r.tr a h
    rw [e, hp] at z; cases z
  have k := make_kp (ho := o) r hp
  refine ⟨⟨r.len, r.inj, fun n a q h1 h2 => ?_, fun a h => ?_, fun a vs h z => ?_⟩, fun ⟨n, q, h1, h2⟩ => na p (r.ob n p q h1 h2).1 rfl⟩
  · obtain ⟨z1, z2⟩ := r.ob n a q h1 h2
    refine ⟨.inl z1, ?_⟩
    cases q with
    | lst ds => obtain ⟨vs, q1, q2, q3⟩ := z2; exact ⟨vs, by rw [upd_ne (na a z1)]; exact q1, q2, RepL.keep k _ _ q3⟩
    | dic ds => obtain ⟨vs, q1, q2, q3⟩ := z2; exact ⟨vs, by rw [upd_ne (na a z1)]; exact q1, q2, RepK.keep k _ _ q3⟩
  · rcases h with h | h
    · obtain ⟨q, z⟩ := r.tr a h; exact ⟨q, by rw [upd_ne (na a h)]; exact z⟩
    · subst h; exact ⟨o, upd_same⟩
  · rcases z with z | z
    · rw [upd_ne (na a z)] at h; exact r.nt a vs h z
    · subst z; rw [upd_same] at h; exact nt vs (Option.some.inj h)
section
variable {mg : Str → Option Value} {W : WX}
abbrev W0 : WX := fun _ _ _ _ => False
theorem lc_run {vs : List Nat} {tg : Tg} {tt : Te} {fe : Ex} {ρ : Ev} {σ : L2.St} {c1 : Cor Ω} {S1 Sf : Sto} {H1 : Hp} {ds total : List D} {J : It} {Q : VK} (hr : Rel c1 S1 H1) (he : RepE c1 H1 ρ σ) (wd : WD c1 S1 H1 ds J)
    (hc : compL (item vs tg tt fe ρ) ds S1 = .ok total Sf)
    (hfin : ∀ (p : Addr) (c' : Cor Ω) (H : Hp) (us : List V), H1 p = none → Nx (lockC c1 p) S1 (upd H1 p (.lst us)) c' Sf H → H p = some (.lst us) → RepL c'.A H total us → us.length ≤ sizeLine → ¬ live c' Sf p → c'.A p → Q (.ref p) H) :
    ∀ p, H1 p = none → ∃ Wv : Nat → Nat → Hp → Prop, (∃ m, Wv 0 m (upd H1 p (.lst []))) ∧ ∀ i m H, Wv i m H →
      (J.stop i H ∧ Q (.ref p) H) ∨ (J.go i H ∧ ∃ Nx : Hp → Prop, (∀ H', Nx H' → ∃ m', m' < m ∧ Wv (i + 1) m' H') ∧ ∀ x H', J.yld i H x H' → tGw Ω vs tg x (wipe σ vs) H' fun σ2 H2 => wipe σ2 vs = wipe σ vs ∧ tT Ω mg W0 tt σ2 H2 fun b H3 =>
        if b = true then tE Ω mg W0 fe σ2 H3 fun y H4 => ∃ acc, H4 p = some (.lst acc) ∧ acc.length < sizeLine ∧ Nx (upd H4 p (.lst (acc ++ [y]))) else Nx H3) := by
  intro p hp
  have ntl : ∀ us : List V, ∀ vs, HO.lst us ≠ .tup vs := fun _ _ z => by cases z
  have LR := fun us => lock_rel (o := .lst us) hr hp (ntl us)
  refine lc_it wd.walk (fun i H => ∃ c' S' done us r, Nx (lockC c1 p) S1 (upd H1 p (.lst us)) c' S' H ∧ H p = some (.lst us) ∧ RepL c'.A H done us ∧ us.length ≤ i ∧ compL (item vs tg tt fe ρ) (ds.drop i) S' = .ok r Sf ∧ done ++ r = total) ?_ ?_ ?_ ?_
  · exact ⟨lockC c1 p, S1, [], [], total, Nx.refl (LR []).1, upd_same, .nil, Nat.le_refl _, hc, rfl⟩
  · rintro i H hi ⟨c', S', done, us, r, x, h1, _⟩ a o ha hl
    have hne := ne_of_none ha hp
    exact x.fr a o (by rw [upd_ne hne]; exact ha) hl
  · rintro i x H H' hi ⟨c', S', done, us, r, x1, h1, h2, h3, h4, h5⟩ ⟨d, hd, hg, hrep⟩
    have hx2 : Nx c' S' H c' S' H' := by
      rcases hg with rfl | ⟨T, vs, hT, rfl⟩
      · exact Nx.refl x1.rel
      · exact Nx.new x1.rel hT
    have hA' : c'.A p := x1.lock p (.inr rfl) (LR us).2
    have nl' : ∀ {c : Cor Ω} {S : Sto} {H0 : Hp}, Nx (lockC c1 p) S1 (upd H1 p (.lst us)) c S H0 → ¬ live c S p := fun y z => by
      rcases y.lv p z with z | z
      · exact (LR us).2 z
      · rw [upd_same] at z; cases z
    have hdrop : ds.drop i = d :: ds.drop (i + 1) := by
      obtain ⟨hl, e⟩ := List.getElem?_eq_some_iff.mp hd
      rw [List.drop_eq_getElem_cons hl, e]
    rw [hdrop] at h4
    unfold compL at h4
    obtain ⟨o, S2, e1, h4⟩ := bind_ok h4
    obtain ⟨r', S3, e2, h4⟩ := bind_ok h4
    have e3 : S3 = Sf ∧ o.toList ++ r' = r := by cases h4; exact ⟨rfl, rfl⟩
    obtain ⟨rfl, rfl⟩ := e3
    obtain ⟨ρ1, Sa, b, Sb, g1, g2, g3⟩ := item_ok e1
    have y1 := x1.trans (LR us).1 hx2
    have he1 : RepE c' H' ρ σ := by
      refine ⟨he.len, fun j v e => ?_⟩
      obtain ⟨u, q1, q2⟩ := he.at' j v e
      refine ⟨u, q1, ?_⟩
      have hk : Kp c1.A H1 (lockC c1 p).A (upd H1 p (.lst us)) := make_kp hr hp
      have hv : VRep (lockC c1 p) (upd H1 p (.lst us)) v u := by
        cases v with
        | d z => exact Rep.keep hk _ _ q2
        | loc n => exact q2
        | scr zs => obtain ⟨a, ws, w1, w2, w4, w5⟩ := q2; exact ⟨a, ws, w1, w2.elim (fun z => .inl ⟨hk.na z.1 z.2, hk.rd z.1 z.2⟩) .inr, w4, RepL.keep hk _ _ w5⟩
      exact (hv.keep (LR us).1 y1)
    refine ⟨c', wipeE ρ vs, S', .d d, hx2.rel, wipe_rep he1 vs, hrep c'.A (fun a o' ha z => by
      rcases x1.grow a z with z | z
      · rcases z with z | z
        · exact z
        · exact absurd z (ne_of_none ha hp)
      · rw [upd_ne (ne_of_none ha hp), ha] at z; cases z), ?_⟩
    rw [g1]
    intro c2 σ2 H2 x2 e2' hw
    refine ⟨hw.trans (wipe_wipe _ _), c2, ρ1, Sa, x2.rel, e2', ?_⟩
    rw [g2]
    intro c3 H3 x3
    have y3 := (y1.trans (LR us).1 x2).trans (LR us).1 x3
    rcases g3 with ⟨rfl, z, g4, rfl⟩ | ⟨rfl, rfl, rfl⟩
    · refine iteT ⟨c3, ρ1, Sb, x3.rel, e2'.keep x2.rel x3, ?_⟩
      rw [g4]
      intro c4 H4 x4 y hy
      have y4 := y3.trans (LR us).1 x4
      have hp4 : H4 p = some (.lst us) := y4.fr p _ upd_same (LR us).2
      have hlen : us.length < sizeLine := by
        have := wd.len; omega
      refine ⟨us, hp4, hlen, c4, S2, done ++ [z], us ++ [y], r', Nx.poke hp (.inr rfl) y4 (LR us).1 (LR us).2 hp4 (ntl us) (ntl _), upd_same, ?_, by rw [List.length_append]; show us.length + 1 ≤ i + 1; omega, e2, by rw [List.append_assoc]; exact h5⟩
      have hA4 : c4.A p := y4.lock p (.inr rfl) (LR us).2
      have k4 : Kp c4.A H4 c4.A (upd H4 p (.lst (us ++ [y]))) := ⟨fun b vs h => by rw [upd_ne (show b ≠ p from fun z => by subst z; rw [hp4] at h; cases h)]; exact h, fun b q h w => by rw [upd_ne (show b ≠ p from fun y => w (by rw [y]; exact hA4))]; exact h, fun _ _ _ z => z⟩
      exact (RepL.keep k4 _ _ (RepL.keep (((hx2.trans x1.rel x2).trans x1.rel x3).trans x1.rel x4 |>.kp x1.rel) _ _ h2)).append (.cons (Rep.keep k4 _ _ hy) .nil)
    · refine iteF ⟨c3, S2, done, us, r', y3, y3.fr p _ upd_same (LR us).2, RepL.keep (((hx2.trans x1.rel x2).trans x1.rel x3) |>.kp x1.rel) _ _ h2, by omega, e2, h5⟩
  · rintro H ⟨c', S', done, us, r, x1, h1, h2, h3, h4, h5⟩
    rw [List.drop_length] at h4
    cases h4
    rw [List.append_nil] at h5
    subst h5
    refine hfin p c' H us hp x1 h1 h2 (Nat.le_trans h3 wd.len) (fun z => ?_) (x1.lock p (.inr rfl) (LR us).2)
    rcases x1.lv p z with z | z
    · exact (LR us).2 z
    · rw [upd_same] at z; cases z
/-- what is left when the comprehension is done: a list that nobody changes -/
theorem Nx.unlock {c1 c' : Cor Ω} {S1 Sf : Sto} {H1 H : Hp} {p : Addr} {o : HO} (hr : Rel c1 S1 H1) (hp : H1 p = none) (x : Nx (lockC c1 p) S1 (upd H1 p o) c' Sf H) (nl : ¬ live c' Sf p) : Nx c1 S1 H1 ⟨c'.m, fun a => c'.A a ∧ a ≠ p⟩ Sf H := by
  have k : Kp c'.A H (fun a => c'.A a ∧ a ≠ p) H := ⟨fun _ _ h => h, fun _ _ h _ => h, fun _ _ _ z => z.1⟩
  refine ⟨x.pre, fun a h => ?_, fun a h l => ⟨x.lock a (.inl h) l, fun e => ?_⟩, ⟨x.rel.len, x.rel.inj, fun n a q h1 h2 => ?_, fun a h => x.rel.tr a h.1, fun a vs h z => x.rel.nt a vs h z.1⟩, fun a q h l => ?_, fun a h => ?_⟩
  · rcases x.grow a h.1 with z | z
    · rcases z with z | z
      · exact .inl z
      · exact absurd z h.2
    · rw [upd_ne h.2] at z; exact .inr z
  · obtain ⟨q, z⟩ := hr.tr a h
    rw [e, hp] at z; cases z
  · obtain ⟨z1, z2⟩ := x.rel.ob n a q h1 h2
    refine ⟨⟨z1, fun z => nl (by subst z; exact ⟨n, q, h1, h2⟩)⟩, ?_⟩
    cases q with
    | lst ds => obtain ⟨vs, q1, q2, q3⟩ := z2; exact ⟨vs, q1, q2, RepL.keep k _ _ q3⟩
    | dic ds => obtain ⟨vs, q1, q2, q3⟩ := z2; exact ⟨vs, q1, q2, RepK.keep k _ _ q3⟩
  · exact x.fr a q (by rw [upd_ne (ne_of_none h hp)]; exact h) l
  · rcases x.lv a h with z | z
    · exact .inl z
    · by_cases e : a = p
      · subst e; exact .inr hp
      · rw [upd_ne e] at z; exact .inr z
theorem eLc_r {fi : Iy} {vs : List Nat} {tg : Tg} {tt : Te} {fe : Ex} {σ : L2.St} {H : Hp} {Q : VK} (h : tE Ω mg W (eLc fi vs tg tt fe) σ H Q) : tLc (tI Ω mg W fi) (tGw Ω vs tg) (tT Ω mg W0 tt) (tE Ω mg W0 fe) vs σ H Q := by
  obtain ⟨c, ρ, S, hr, he, q⟩ := h
  have q1 := Aft.bind hr q
  refine ⟨c, ρ, S, hr, he, (Aft.bind hr q1).mono fun ds c1 S1 H1 x1 h1 J wd => ?_⟩
  cases e : compL (item vs tg tt fe ρ) ds S1 with
  | bad => rw [e] at h1; exact h1.elim
  | exc x S' => exact (compL_noexc (fun d S x S' => item_noexc x S') ds S1 x S' e).elim
  | ok total Sf =>
    rw [e] at h1
    refine lc_run x1.rel (he.keep hr x1) wd e fun p c' H us hp x h2 h3 h4 h5 h6 => ?_
    have k : Kp c'.A H (fun a => c'.A a ∧ a ≠ p) H := ⟨fun _ _ h => h, fun _ _ h _ => h, fun _ _ _ z => z.1⟩
    have y := Nx.unlock x1.rel hp x h5
    exact h1 _ H y _ H (Nx.refl y.rel) _ (.lst (fun z => z.2 rfl) h2 h4 (RepL.keep k _ _ h3))
theorem se_lc {X : Cx} {e : Expr} {fi : Iy} {vs : List Nat} {tg : Tg} {tt : Te} {fe : Ex} (h : PE X e (tLc (tI X.K X.mg W fi) (tGw X.K vs tg) (tT X.K X.mg W0 tt) (tE X.K X.mg W0 fe) vs)) : SE X W e (eLc fi vs tg tt fe) := PE.imp h fun σ H Q q => eLc_r q
theorem ss_setLc {X : Cx} {st : Stmt} {i : Nat} {fi : Iy} {vs : List Nat} {tg : Tg} {tt : Te} {fe : Ex} (h : PS X st (tAsg (tLc (tI X.K X.mg W fi) (tGw X.K vs tg) (tT X.K X.mg W0 tt) (tE X.K X.mg W0 fe) vs) (gName i))) : SS X W st (sSet i (eLc fi vs tg tt fe)) :=
  PS.imp h fun D σ H ⟨c, ρ, S, hr, he, q⟩ => eLc_r ⟨c, ρ, S, hr, he, (Aft.st hr he q).mono fun v c1 S1 H1 x1 h1 u hu => h1 c1 _ H1 (Nx.refl x1.rel) ((he.keep hr x1).set hu i)⟩
end
end DL

namespace DL
open PySem PySem.Spec PyProof.Rows L2
/-! ### a dict that is walked: locked meanwhile -/
structure Kl (a : Addr) (H H' : Hp) : Prop where
  ne : ∀ b, b ≠ a → H' b = H b
  rd : ∀ kvs, Rd H a (.dK kvs) → Rd H' a (.dK kvs)
  nt : ∀ vs, H a ≠ some (.tup vs)
  nl : ∀ vs, H a ≠ some (.lst vs)
  nf : ∀ o vs, H a ≠ some (.frz o (.lst vs))
section
variable {A : Addr → Prop} {a : Addr} {H H' : Hp}
mutual
theorem Rep.lk (k : Kl a H H') : ∀ (d : D) (v : V), Rep A H d v → Rep A H' d v
  | .none, _, h => by cases h; exact .non
  | .bool _, _, h => by cases h; exact .bl _
  | .int _, _, h => by cases h; exact .int _
  | .str _, _, h => by cases h; exact .str _
  | .tuple ds, _, h => by
    cases h with
    | tup h hl r => exact .tup (by rw [k.ne _ fun z => k.nt _ (by rw [← z]; exact h)]; exact h) hl (RepL.lk k ds _ r)
  | .list ds, _, h => by
    cases h with
    | lst n h hl r => exact .lst n (by rw [k.ne _ fun z => k.nl _ (by rw [← z]; exact h)]; exact h) hl (RepL.lk k ds _ r)
  | .dict ds, _, h => by
    cases h with
    | dic n h hl r =>
      rename_i b kvs
      refine .dic n ?_ hl (RepK.lk k ds _ r)
      by_cases z : b = a
      · subst z; exact k.rd _ h
      · rcases h with h | ⟨o, h⟩
        · exact .inl (by rw [k.ne _ z]; exact h)
        · exact .inr ⟨o, by rw [k.ne _ z]; exact h⟩
theorem RepL.lk (k : Kl a H H') : ∀ (ds : List D) (vs : List V), RepL A H ds vs → RepL A H' ds vs
  | [], _, h => by cases h; exact .nil
  | d :: ds, _, h => by
    cases h with
    | cons h1 h2 => exact .cons (Rep.lk k d _ h1) (RepL.lk k ds _ h2)
theorem RepK.lk (k : Kl a H H') : ∀ (ds : List (D × D)) (vs : List (Key × V)), RepK A H ds vs → RepK A H' ds vs
  | [], _, h => by cases h; exact .nil
  | (_, d) :: ds, _, h => by
    cases h with
    | cons h1 h2 => exact .cons (Rep.lk k d _ h1) (RepK.lk k ds _ h2)
end
theorem Kl.lock {o : Obj} {kvs : List (Key × V)} (h : H a = some (.dK kvs)) : Kl a H (upd H a (.frz o (.dK kvs))) :=
  ⟨fun b hb => upd_ne hb, (fun ks r => by
    rcases r with r | ⟨o', r⟩
    · rw [h] at r; cases r; exact .inr ⟨o, upd_same⟩
    · rw [h] at r; cases r), (fun _ z => by rw [h] at z; cases z), (fun _ z => by rw [h] at z; cases z), (fun _ _ z => by rw [h] at z; cases z)⟩
theorem Kl.unlock {o : Obj} {kvs : List (Key × V)} (h : H a = some (.frz o (.dK kvs))) : Kl a H (upd H a (.dK kvs)) :=
  ⟨fun b hb => upd_ne hb, (fun ks r => by
    rcases r with r | ⟨o', r⟩
    · rw [h] at r; cases r
    · rw [h] at r; cases r; exact .inl upd_same), (fun _ z => by rw [h] at z; cases z), (fun _ z => by rw [h] at z; cases z), (fun _ _ z => by rw [h] at z; cases z)⟩
variable {c : Cor Ω} {S : Sto} {ρ : Ev} {σ : L2.St}
theorem VRep.lk (k : Kl a H H') : ∀ {v : Val} {u : V}, VRep c H v u → VRep c H' v u
  | .d _, _, h => Rep.lk k _ _ h
  | .loc _, _, h => h
  | .scr _, _, ⟨b, vs, h1, h2, h4, h5⟩ => ⟨b, vs, h1, h2.elim (fun z => .inl ⟨z.1, z.2.elim (fun h3 => .inl (by rw [k.ne _ fun z => k.nl vs (by rw [← z]; exact h3)]; exact h3)) (fun ⟨o, h3⟩ => .inr ⟨o, by rw [k.ne _ fun z => k.nf o vs (by rw [← z]; exact h3)]; exact h3⟩)⟩) .inr, h4, RepL.lk k _ _ h5⟩
theorem RepE.lk (k : Kl a H H') (e : RepE c H ρ σ) : RepE c H' ρ σ := ⟨e.len, fun i v h => let ⟨u, h1, h2⟩ := e.at' i v h; ⟨u, h1, h2.lk k⟩⟩
theorem Rel.lk (k : Kl a H H') (hn : ¬ c.A a) (nt' : ∀ vs, H' a ≠ some (.tup vs)) (r : Rel c S H) : Rel c S H' := by
  have ne : ∀ b, c.A b → b ≠ a := fun b h z => hn (z ▸ h)
  refine ⟨r.len, r.inj, fun n b o h1 h2 => ?_, fun b h => ?_, fun b vs h z => ?_⟩
  · obtain ⟨z1, z2⟩ := r.ob n b o h1 h2
    refine ⟨z1, ?_⟩
    cases o with
    | lst ds => obtain ⟨vs, q1, q2, q3⟩ := z2; exact ⟨vs, by rw [k.ne _ (ne b z1)]; exact q1, q2, RepL.lk k _ _ q3⟩
    | dic ds => obtain ⟨vs, q1, q2, q3⟩ := z2; exact ⟨vs, by rw [k.ne _ (ne b z1)]; exact q1, q2, RepK.lk k _ _ q3⟩
  · obtain ⟨o, q⟩ := r.tr b h
    exact ⟨o, by rw [k.ne _ (ne b h)]; exact q⟩
  · rw [k.ne _ (ne b z)] at h; exact r.nt b vs h z
/-- from the locked heap back -/
theorem Nx.unlk {c1 : Cor Ω} {S1 : Sto} {H1 : Hp} {o : Obj} {kvs : List (Key × V)} (hr : Rel c S H) (h : H a = some (.dK kvs)) (hn : ¬ c.A a) (x : Nx c S (upd H a (.frz o (.dK kvs))) c1 S1 H1) :
    H1 a = some (.frz o (.dK kvs)) ∧ Nx c S H c1 S1 (upd H1 a (.dK kvs)) := by
  have hl : ¬ live c S a := fun z => hn (hr.live z)
  have h1 : H1 a = some (.frz o (.dK kvs)) := x.fr a _ upd_same hl
  have hn1 : ¬ c1.A a := fun z => by
    rcases x.grow a z with z | z
    · exact hn z
    · rw [upd_same] at z; cases z
  refine ⟨h1, x.pre, fun b z => ?_, x.lock, Rel.lk (Kl.unlock h1) hn1 (fun vs z => by rw [upd_same] at z; cases z) x.rel, fun b q hb hlb => ?_, fun b z => ?_⟩
  · rcases x.grow b z with z | z
    · exact .inl z
    · by_cases e : b = a
      · subst e; rw [upd_same] at z; cases z
      · rw [upd_ne e] at z; exact .inr z
  · by_cases e : b = a
    · subst e; rw [h] at hb; cases hb; exact upd_same
    · rw [upd_ne e]; exact x.fr b q (by rw [upd_ne e]; exact hb) hlb
  · rcases x.lv b z with z | z
    · exact .inl z
    · by_cases e : b = a
      · subst e; rw [upd_same] at z; cases z
      · rw [upd_ne e] at z; exact .inr z
end
def itKeys (i : Nat) : Iy := fun ρ S => match ρ[i]? with
  | some (some (.d (.dict kds))) => .ok (kds.map (·.1)) S
  | _ => .bad
def lockedAt (i : Nat) (σ : L2.St) (H : Hp) : Prop := ∃ a o kvs, σ[i]? = some (some (.ref a)) ∧ H a = some (.frz o (.dK kvs))
def tIk (Ω : PySem.W.Frag) (mg : Str → Option Value) (W : WX) (i : Nat) : TI := fun σ H R' => lockedAt i σ H ∧ tI Ω mg W (itKeys i) σ H R'
theorem RepK.keysV {A : Addr → Prop} {H : Hp} : ∀ {kds : List (D × D)} {kvs : List (Key × V)}, RepK A H kds kvs → ∀ {i : Nat} {k : Key} {v : V}, kvs[i]? = some (k, v) → (kds.map (·.1))[i]? = some (keyD k)
  | _, _, .nil, i, k, v, e => by simp at e
  | _, _, .cons h r, 0, k, v, e => by simp at e; obtain ⟨rfl, rfl⟩ := e; rfl
  | _, _, .cons h r, i + 1, k, v, e => by simpa using RepK.keysV r (i := i) (by simpa using e)
section
variable {X : Cx} {W : WX} {tg : Expr}
theorem pi_lk {e : Expr} {i : Nat} (h : PE X e (tVar i)) : PI X tg e (tIk X.K X.mg W i) := PI.imp (pi_keys h) fun σ H R' ⟨⟨a, o, kvs, h1, h2⟩, c, ρ, S, hr, he, q⟩ => by
  refine ⟨.ref a, h1, a, o, rfl, .inl ⟨kvs, h2, ?_⟩⟩
  unfold itKeys at q
  split at q
  · rename_i kds e1
    obtain ⟨u, g1, g2⟩ := he.at' i _ e1
    rw [h1] at g1; cases g1
    cases g2 with
    | dic n hd hl r =>
      rename_i kvs'
      have ek : kvs' = kvs := by
        rcases hd with hd | ⟨o', hd⟩
        · rw [h2] at hd; cases hd
        · rw [h2] at hd; cases hd; rfl
      subst ek
      refine q c H (Nx.refl hr) _ ⟨?_, by rw [List.length_map, r.length]; exact hl⟩
      rw [List.length_map, r.length]
      refine walk_keys.mono (fun H' g => g a _ h2 fun z => n (hr.live z)) fun j H1 x H2 hj hg y => ?_
      obtain ⟨rfl, k, v, hk, rfl⟩ := y
      exact ⟨keyD k, r.keysV hk, .inl rfl, fun A _ => rep_keyD k⟩
  · exact q.elim
theorem PS.or {st : Stmt} {t t' : TS} (h : PS X st t) (h' : PS X st t') : PS X st (fun D σ H => t D σ H ∨ t' D σ H) := ⟨fun pins s σ H D I hw => by
  rcases hw with hw | hw
  · exact h.run pins s σ H D I hw
  · exact h'.run pins s σ H D I hw⟩
theorem PE.or {e : Expr} {t t' : TE} (h : PE X e t) (h' : PE X e t') : PE X e (fun σ H Q => t σ H Q ∨ t' σ H Q) := ⟨fun pins s σ H D I hw => by
  rcases hw with hw | hw
  · exact h.run pins s σ H D I hw
  · exact h'.run pins s σ H D I hw⟩
def noEx (r : R Flow) : R Flow := match r with
  | .ok (.ex _ _) _ => .bad
  | r => r
/-- for x in d, d the dict in slot i -/
def sForK (i : Nat) (tg : Tg) (g : Blk) : Blk := fun ρ S => noEx (sFor (itKeys i) tg g ρ S)
def eLcK (i : Nat) (vs : List Nat) (tg : Tg) (tt : Te) (fe : Ex) : Ex := fun ρ S => (eLc (itKeys i) vs tg tt fe ρ S).noX
theorem dict_at {c : Cor Ω} {S : Sto} {H : Hp} {ρ : Ev} {σ : L2.St} {i : Nat} {kds : List (D × D)} (he : RepE c H ρ σ) (e : ρ[i]? = some (some (.d (.dict kds)))) : ∃ a kvs, σ[i]? = some (some (.ref a)) ∧ ¬ c.A a ∧ Rd H a (.dK kvs) := by
  obtain ⟨u, g1, g2⟩ := he.at' i _ e
  cases g2 with
  | dic n hd hl r => exact ⟨_, _, g1, n, hd⟩
theorem ss_forK {pos : Pos} {e : Expr} {body : List Stmt} {i : Nat} {t : Tg} {g : Blk} (hp : PassesOwn (model X.prog X.w) X.A X.env X.xe) (hc : X.calm = true) (hi : PE X e (tVar i)) (ht : SG X tg t) (hg : SSs X W body g)
    (hs : ∀ x, foldedSetIterable e X.env x = pure x := by intro _; rfl) : SS X W (.For tg e body [] pos) (sForK i t g) := by
  have P : PS X (.For tg e body [] pos) (tFor (tIk X.K X.mg W i) (tG X.K t) (tS X.K X.mg W g)) := ps_for hp hc (pi_lk hi) ht hg hs
  refine PS.imp (PS.or (ps_lock P) P) fun D σ H ⟨c, ρ, S, hr, he, q⟩ => ?_
  unfold sForK at q
  have q0 := q
  unfold sFor itKeys at q
  split at q
  · rename_i kds e1
    obtain ⟨a, kvs, h1, h2, h3⟩ := dict_at (S := S) he e1
    rcases h3 with h3 | ⟨o, h3⟩
    · refine .inl ⟨a, .dK kvs, h3, trivial, fun od => ⟨⟨a, od, kvs, h1, upd_same⟩, for_r ?_⟩⟩
      have k := Kl.lock (o := od) h3
      refine ⟨c, ρ, S, Rel.lk k h2 (fun vs z => by rw [upd_same] at z; cases z) hr, he.lk k, ?_⟩
      revert q0
      generalize sFor (itKeys i) t g ρ S = r
      intro q0
      cases r with
      | bad => exact q0
      | exc x S' => exact q0
      | ok fl S' =>
        cases fl with
        | ex x ρ' => exact q0.elim
        | nx ρ' => exact fun c' σ' H' x e => let ⟨z1, z2⟩ := Nx.unlk hr h3 h2 x; ⟨z1, q0 c' σ' _ z2 (e.lk (Kl.unlock z1))⟩
        | bk ρ' => exact fun c' σ' H' x e => let ⟨z1, z2⟩ := Nx.unlk hr h3 h2 x; ⟨z1, q0 c' σ' _ z2 (e.lk (Kl.unlock z1))⟩
        | ct ρ' => exact fun c' σ' H' x e => let ⟨z1, z2⟩ := Nx.unlk hr h3 h2 x; ⟨z1, q0 c' σ' _ z2 (e.lk (Kl.unlock z1))⟩
        | rt v => exact fun c' H' u x e => let ⟨z1, z2⟩ := Nx.unlk hr h3 h2 x; ⟨z1, q0 c' _ u z2 (e.lk (Kl.unlock z1))⟩
    · refine .inr ⟨⟨a, o, kvs, h1, h3⟩, for_r ⟨c, ρ, S, hr, he, ?_⟩⟩
      revert q0
      generalize sFor (itKeys i) t g ρ S = r
      intro q0
      cases r with
      | bad => exact q0
      | exc x S' => exact q0
      | ok fl S' =>
        cases fl with
        | ex x ρ' => exact q0.elim
        | nx ρ' => exact q0
        | bk ρ' => exact q0
        | ct ρ' => exact q0
        | rt v => exact q0
  · exact q.elim
theorem se_lcK {e : Expr} {i : Nat} {vs : List Nat} {t : Tg} {tt : Te} {fe : Ex} (P : PE X e (tLc (tIk X.K X.mg W i) (tGw X.K vs t) (tT X.K X.mg W0 tt) (tE X.K X.mg W0 fe) vs)) : SE X W e (eLcK i vs t tt fe) := by
  refine PE.imp (PE.or (pe_lock P) P) fun σ H Q ⟨c, ρ, S, hr, he, q⟩ => ?_
  unfold eLcK at q
  have q0 := q
  unfold eLc cmp itKeys at q
  split at q
  · rename_i kds e1
    obtain ⟨a, kvs, h1, h2, h3⟩ := dict_at (S := S) he e1
    rcases h3 with h3 | ⟨o, h3⟩
    · refine .inl ⟨a, .dK kvs, h3, trivial, fun od => ⟨⟨a, od, kvs, h1, upd_same⟩, ?_⟩⟩
      have k := Kl.lock (o := od) h3
      refine (show tLc (tI X.K X.mg W (itKeys i)) (tGw X.K vs t) (tT X.K X.mg W0 tt) (tE X.K X.mg W0 fe) vs σ (upd H a (.frz od (.dK kvs))) (fun v H' => H' a = some (.frz od (.dK kvs)) ∧ Q v (upd H' a (.dK kvs))) from eLc_r ?_)
      refine ⟨c, ρ, S, Rel.lk k h2 (fun vs z => by rw [upd_same] at z; cases z) hr, he.lk k, ?_⟩
      revert q0
      generalize eLc (itKeys i) vs t tt fe ρ S = r
      intro q0
      cases r with
      | bad => exact q0
      | exc x S' => exact q0.elim
      | ok v S' => exact fun c' H' x u hu => let ⟨z1, z2⟩ := Nx.unlk hr h3 h2 x; ⟨z1, q0 c' _ z2 u (hu.lk (Kl.unlock z1))⟩
    · refine .inr ⟨⟨a, o, kvs, h1, h3⟩, (show tLc (tI X.K X.mg W (itKeys i)) (tGw X.K vs t) (tT X.K X.mg W0 tt) (tE X.K X.mg W0 fe) vs σ H Q from eLc_r ⟨c, ρ, S, hr, he, ?_⟩)⟩
      revert q0
      generalize eLc (itKeys i) vs t tt fe ρ S = r
      intro q0
      cases r with
      | bad => exact q0
      | exc x S' => exact q0.elim
      | ok v S' => exact q0
  · exact q.elim
end
/-! ### errors -/
section
variable {X : Cx} {W : WX} {pos : Pos}
theorem ss_raise {e : Expr} {C : Addr} {x : Str} (hc : X.calm = true) (tk : Takes X W) (hx : X.mg x = some (.ref C)) (h : PMk X e (fun _ H Q => Q (.ref C) none H)) : SS X W (.Raise (some e) none pos) (sRaise ⟨x⟩) :=
  PS.imp (ps_raise hc tk h) fun D σ H ⟨c, ρ, S, hr, he, q⟩ => q c σ H (.ref C) none (Nx.refl hr) he ⟨C, hx, rfl, rfl⟩
/-- try: body except C: suite; m tells of a class whether it is caught -/
def sTry (m : Str → Option Bool) (g h : Blk) : Blk := fun ρ S => match g ρ S with
  | .ok (.ex x ρ') S' => match m x.cls with
    | some true => noEx (h ρ' S')
    | some false => .ok (.ex x ρ') S'
    | none => .bad
  | r => r
theorem ss_try {x : Str} {cv : Value} {body suite : List Stmt} {b₀ : Stmt} {np pos' : Pos} {m : Str → Option Bool} {g h : Blk} (hs : X.stack = X.env :: X.outer) (hf : X.env.frame = some X.env.locals) (hc : Names X x cv) (tk : Takes X W)
    (hm : ∀ y b C, m y = some b → X.mg y = some (.ref C) → PySem.W.exmOne X.K (.ref C) cv = some b)
    (hb : ∀ (W : WX) (pn : List (Addr × Obj)) (xe : Value → Shared → Prop), Takes (X.tr pn xe) W → PassesOwn (model X.prog X.w) X.A X.env xe → SSs (X.tr pn xe) W body g)
    (hsu : ∀ (a : Addr) (oe : Obj) (pn : List (Addr × Obj)), SSs (X.suite a ((a, oe) :: pn)) W0 (b₀ :: suite) h) :
    SS X W (.Try body [.ExceptHandler (some (.Name x np)) none (b₀ :: suite) pos'] [] [] pos) (sTry m g h) :=
  PS.imp (ps_try_only (tb := fun W => tS X.K X.mg W g) (ts := fun _ _ _ => tS X.K X.mg W0 h) hs hf hc tk hb (fun a oe cls d pn _ _ => hsu a oe pn)) fun D σ H ⟨c, ρ, S, hr, he, q⟩ => by
    refine ⟨c, ρ, S, hr, he, ?_⟩
    unfold sTry at q
    revert q
    cases g ρ S with
    | ok fl S' =>
      cases fl with
      | nx ρ' => exact fun q => q
      | bk ρ' => exact fun q => q
      | ct ρ' => exact fun q => q
      | rt v => exact fun q => q
      | ex y ρ' =>
        intro q c' σ' H' cls d x1 e1 hx
        obtain ⟨C, h1, rfl, rfl⟩ := hx
        cases e : m y.cls with
        | none => simp only [e] at q; exact q.elim
        | some b =>
          refine ⟨b, hm y.cls b C e h1, fun hb a _ => ?_, fun hb => ?_⟩
          · subst hb
            simp only [e] at q
            refine ⟨c', ρ', S', x1.rel, e1, ?_⟩
            have q1 := AftS.later hr x1 q
            revert q1
            cases h ρ' S' with
            | bad => exact fun q => q
            | exc _ _ => exact fun q => q
            | ok fl S2 =>
              cases fl with
              | ex _ _ => exact fun q => q.elim
              | nx ρ' => exact fun q => q
              | bk ρ' => exact fun q => q
              | ct ρ' => exact fun q => q
              | rt v => exact fun q => q
          · subst hb
            simp only [e] at q
            exact q c' σ' H' _ none x1 e1 ⟨C, h1, rfl, rfl⟩
    | exc x S' => exact fun q => q
    | bad => exact fun q => q
end
end DL

namespace DL
open PySem PySem.Spec PyProof.Rows L2
/-! ### what the proof never comes to -/
def sBad : Blk := fun _ _ => .bad
def eBad : Ex := fun _ _ => .bad
section
variable {X : Cx} {W : WX} {pos : Pos}
theorem ss_never {sts : List Stmt} : SSs X W sts sBad := PSs.imp pss_never fun D σ H ⟨c, ρ, S, hr, he, q⟩ => q.elim
theorem ss_never1 {st : Stmt} : SS X W st sBad := PS.imp ps_never fun D σ H ⟨c, ρ, S, hr, he, q⟩ => q.elim
theorem se_never {e : Expr} : SE X W e eBad := ⟨fun pins s σ H Q I ⟨c, ρ, S, hr, he, q⟩ => q.elim⟩
/-! ### a, b = x, y -/
def sPar (is : List Nat) (f : La) : Blk := fun ρ S => (f ρ S).st ρ fun vs S1 => if vs.length = is.length then .ok (.nx ((is.zip vs).foldl (fun r p => r.set p.1 (some p.2)) ρ)) S1 else .bad
theorem ss_par2 {i j : Nat} {f : La} {st : Stmt} (h : PS X st (tPar i j (tA X.K X.mg W f))) : SS X W st (sPar [i, j] f) := PS.imp h fun D σ H ⟨c, ρ, S, hr, he, q⟩ => by
  refine ⟨c, ρ, S, hr, he, (Aft.st hr he q).mono fun vs c1 S1 H1 x1 h1 us hus => ?_⟩
  split at h1
  · rename_i hl
    match vs, us, hus, hl with
    | [v, w], [x, y], .cons hv (.cons hw .nil), _ => exact ⟨x, y, rfl, h1 c1 _ H1 (Nx.refl x1.rel) (((he.keep hr x1).set hv i).set hw j)⟩
  · exact h1.elim
theorem ss_par3 {i j k : Nat} {f : La} {st : Stmt} (h : PS X st (tPar3 i j k (tA X.K X.mg W f))) : SS X W st (sPar [i, j, k] f) := PS.imp h fun D σ H ⟨c, ρ, S, hr, he, q⟩ => by
  refine ⟨c, ρ, S, hr, he, (Aft.st hr he q).mono fun vs c1 S1 H1 x1 h1 us hus => ?_⟩
  split at h1
  · rename_i hl
    match vs, us, hus, hl with
    | [v, w, u], [x, y, z], .cons hv (.cons hw (.cons hu .nil)), _ => exact ⟨x, y, z, rfl, h1 c1 _ H1 (Nx.refl x1.rel) ((((he.keep hr x1).set hv i).set hw j).set hu k)⟩
  · exact h1.elim
end
/-! ### t[::-1] -/
theorem rev_adjust (n : Nat) : Builtin.Slice.sliceAdjust none none (-1) (n : Int) = ((n : Int) - 1, -1) := by
  unfold Builtin.Slice.sliceAdjust
  simp
  try omega
theorem rev_places (n : Nat) : Builtin.Slice.slicePlaces ((n : Int) - 1) (-1) (-1) = n := by
  unfold Builtin.Slice.slicePlaces
  rw [if_neg (by decide)]
  by_cases h : (n : Int) - 1 > -1
  · rw [if_pos h]; show (((n : Int) - 1 - -1 - 1) / (- -1) + 1).toNat = n; simp; try omega
  · rw [if_neg h]; omega
theorem rev_pick (xs : Array Value) : ((List.range xs.size).filterMap fun (m : Nat) => xs[(((xs.size : Int) - 1) + (m : Int) * (-1)).toNat]?).toArray = xs.toList.reverse.toArray := by
  have e : (fun (m : Nat) => xs[(((xs.size : Int) - 1) + (m : Int) * (-1)).toNat]?) = fun (m : Nat) => xs[xs.size - 1 - m]? := by
    funext m
    have : (((xs.size : Int) - 1) + (m : Int) * (-1)).toNat = xs.size - 1 - m := by omega
    rw [this]
  have e2 : (List.range xs.size).filterMap (fun (m : Nat) => xs[xs.size - 1 - m]?) = ((List.range xs.size).map (fun k => xs.size - 1 - k)).filterMap (xs[·]?) := by
    rw [List.filterMap_map]; rfl
  rw [e, e2, PySem.W.krv_range, List.filterMap_reverse, PySem.W.krv_all]
theorem getItem_tuple_rev {prog : Program} {w : World} {A : Around} {E : Value → Shared → Prop} {s : Shared} {t sl : Addr} {items : Array Value} {vs : Value} {Q : Value → Shared → Prop} (ht : IsTup s.heap t items) (hs : s.heap.IsSliceOf sl .none .none vs) (ps : IsPart vs (some (-1)))
    (h : Q (.ref s.heap.objs.size) { s with heap := s.heap.push { cls := .type "tuple", data := .seq items.toList.reverse.toArray } })
    (hsz : items.size ≤ sizeLine) : wpAny (model prog w) A (getItem (.ref t) (.ref sl)) Q E s := by
  have htake : sizeOk (.seq items.toList.reverse.toArray) := by
    show items.toList.reverse.toArray.size ≤ sizeLine
    rw [List.size_toArray, List.length_reverse, Array.length_toList]
    exact hsz
  obtain ⟨os, hos, hcs, hds⟩ := id hs
  have hTs : s.TypeIs (.ref sl) "slice" := ⟨os, hos, hcs⟩
  unfold getItem
  try with_reducible refine wpAny_holding ?_
  first | refine wpAny_bind (wpAny_pure ?_) | skip
  refine wpAny_bind (wpAny_sequenceKey ht.typeIs (by decide) ?_)
  refine wpAny_bind (wpAny_callSpecial?_slot (name := Str.ofString "__getitem__") ht.typeIs PyProof.Rows.slot_tuple_getitem
    (wpAny_call_entry PyProof.Rows.slot_tuple_getitem ht.typeIs entry_tuple_getitem ?_ (args_tuple_getitem _ _)))
  show wpAny _ _ (Builtin.Tuple.tupleItemsOf (.ref t) >>= _) _ _ s
  refine wpAny_bind (tupleItemsOf_ ht ?_)
  refine wpAny_bind (wpAny_typeOf hTs ?_)
  rw [if_pos (by decide)]
  have ap : ∀ {Q : Int × Int × Nat → Shared → Prop}, Q ((items.size : Int) - 1, -1, items.size) s → wpAny (model prog w) A.in1 (Builtin.Slice.sliceApplied (.ref sl) (pure (items.size : Int))) Q E s := fun {Q} h => by
    unfold Builtin.Slice.sliceApplied Builtin.Slice.sliceFields
    refine wpAny_bind (wpAny_bind (wpAny_field hos hds (x := .none) rfl (wpAny_bind (wpAny_field hos hds (x := .none) rfl (wpAny_bind (wpAny_field hos hds (x := vs) rfl (wpAny_pure ?_)))))))
    refine wpAny_bind (HT.slicePart_ ps ?_)
    show wpAny _ _ (if ((-1 : Int) == 0) = true then _ else _) _ _ s
    rw [if_neg (by decide)]
    refine wpAny_bind (slicePart_none (wpAny_bind (slicePart_none (wpAny_bind (wpAny_pure ?_)))))
    show wpAny _ _ (match Builtin.Slice.sliceAdjust none none (-1) (items.size : Int) with | (lo, hi) => pure (lo, (-1 : Int), Builtin.Slice.slicePlaces lo hi (-1))) _ _ s
    rw [rev_adjust]
    show wpAny _ _ (pure ((items.size : Int) - 1, (-1 : Int), Builtin.Slice.slicePlaces ((items.size : Int) - 1) (-1) (-1))) _ _ s
    rw [rev_places]
    exact wpAny_pure h
  refine wpAny_bind (ap ?_)
  have hno : ¬ ((((items.size : Int) - 1) == 0 && (-1 : Int) == 1 && items.size == items.size) = true) := by
    intro q
    rw [Bool.and_eq_true, Bool.and_eq_true] at q
    exact absurd q.1.2 (by decide)
  show wpAny _ _ (if ((((items.size : Int) - 1) == 0 && (-1 : Int) == 1 && items.size == items.size) = true) then _ else _) _ _ s
  rw [if_neg hno, rev_pick]
  first
    | exact wpAny_bind (m := Builtin.Tuple.tupleExact _) (wpAny_newObj_type (wpAny_pure ⟨_, rfl, wpAny_pure h⟩) htake)
    | exact wpAny_bind (m := Builtin.Tuple.tupleExact _) (wpAny_newObj_type (wpAny_bind (wpAny_pure (wpAny_pure ⟨_, rfl, wpAny_pure h⟩))) htake)
    | exact wpAny_bind (wpAny_bind (m := Builtin.Tuple.tupleExact _) (wpAny_newObj_type (wpAny_pure (wpAny_pure ⟨_, rfl, wpAny_pure h⟩)) htake))
    | exact wpAny_bind (wpAny_bind (m := Builtin.Tuple.tupleExact _) (wpAny_newObj_type (wpAny_pure ⟨_, rfl, wpAny_pure h⟩) htake))
/-! the reading -/
def revD : D → Option D
  | .tuple xs => some (.tuple xs.reverse)
  | .list xs => some (.list xs.reverse)
  | _ => none
def eRev (f : Ex) : Ex := fun ρ S => (f ρ S).bind fun v S1 => ofO ((lookR S1 v).bind revD) S1
section
variable {X : Cx} {W : WX}
def tRevT (K : PySem.W.Frag) (te : TE) : TE := fun σ H Q => te σ H fun x H1 => ∃ a xs, x = .ref a ∧ SqT K H1 a xs ∧ ∀ p, H1 p = none → Q (.ref p) (upd H1 p (.tup xs.reverse))
theorem pe_revT {e : Expr} {te : TE} {k : Nat} {p1 p2 p3 pos : Pos} (he : PE X e te) : PE X (.Subscript e (.Slice none none (some (.UnaryOp .USub (.Constant (.int 1) k p1) p2)) p3) pos) (tRevT X.K te) := by
  refine ⟨fun pins s σ H Q I h => ?_⟩
  refine Subscript_ (thn (he.run pins s σ H _ I h) fun v s1 ⟨x, H1, I1, r1, q1⟩ => ?_)
  obtain ⟨a, xs, ex, hx, q⟩ := q1
  subst ex
  cases r1
  have hst : PO X (some (.UnaryOp .USub (.Constant (.int 1) k p1) p2)) (tPart (tUn (rU fun i => .int (-i)) (tC (.int 1)))) := po_some (pe_un un_neg pe_int)
  refine wpAny_Slice (thn (po_none.run pins s1 σ H1 (fun o H2 => o = none ∧ H2 = H1) I1 ⟨rfl, rfl⟩) fun vl s2 ⟨l, H2, I2, pl, el, e2⟩ => ?_)
  subst el e2
  refine thn (po_none.run pins s2 σ H2 (fun o H3 => o = none ∧ H3 = H2) I2 ⟨rfl, rfl⟩) fun vu s3 ⟨u, H3, I3, pu, eu, e3⟩ => ?_
  subst eu e3
  refine thn (hst.run pins s3 σ H3 (fun o H4 => o = some (-1) ∧ H4 = H3) I3 ⟨1, rfl, -1, rfl, rfl, rfl⟩) fun vs s4 ⟨o, H4, I4, ps, eo, e4⟩ => ?_
  subst eo e4
  cases pl
  cases pu
  have I5 : Inv X pins σ H4 { s4 with heap := s4.heap.push { cls := .type "slice", data := .fields #[.none, .none, vs] } } := I4.kept (t' := s4.toks) fun b ob q => Heap.get?_push_of_some _ q
  obtain ⟨its, r, ht, hz⟩ := I5.tuple hx
  have hlen := r.length
  show wpAny (model X.prog X.w) X.A (subscriptTail e (.Slice none none (some (.UnaryOp .USub (.Constant (.int 1) k p1) p2)) p3) (.ref a) (.ref s4.heap.objs.size)) (EP X pins σ Q) X.xe { s4 with heap := s4.heap.push { cls := .type "slice", data := .fields #[.none, .none, vs] } }
  refine tail_any (ops := [.ref a, .ref s4.heap.objs.size]) ht.typeIs (PyProof.Rows.slot_tuple_getitem.lookup) ?_ (by with_unfolding_all rfl)
  refine getItem_tuple_rev ht (Heap.IsSliceOf.new _ .none .none vs) ps ?_ (by rw [List.size_toArray]; omega)
  refine ⟨.ref _, _, I5.laid (t' := s4.toks) (o := .tup xs.reverse) (fun b ob q => Heap.get?_push_of_some _ q) (Nat.le_refl _) ?_, rfl, q _ (I5.hok.fresh (Nat.le_refl _))⟩
  exact ⟨by rw [List.length_reverse]; exact hz, _, r.reverse, IsTup.new _ _⟩
theorem se_rev {e : Expr} {f : Ex} {k : Nat} {p1 p2 p3 pos : Pos} (h : SE X W e f) : SE X W (.Subscript e (.Slice none none (some (.UnaryOp .USub (.Constant (.int 1) k p1) p2)) p3) pos) (eRev f) :=
  PE.imp (PE.or (pe_revL h) (pe_revT h)) fun σ H Q ⟨c, ρ, S, hr, he, q⟩ => by
    have q := Aft.bind hr q
    cases e1 : f ρ S with
    | exc x S' => exact .inl ⟨c, ρ, S, hr, he, by rw [e1] at q ⊢; exact q⟩
    | bad => rw [e1] at q; exact q.elim
    | ok v S1 =>
      rw [e1] at q
      cases e2 : lookR S1 v with
      | none => exact .inl ⟨c, ρ, S, hr, he, by rw [e1]; intro c1 H1 x1; have := q c1 H1 x1; simp only [e2] at this; exact this.elim⟩
      | some d =>
        cases e3 : revD d with
        | none => exact .inl ⟨c, ρ, S, hr, he, by rw [e1]; intro c1 H1 x1; have := q c1 H1 x1; simp only [e2, e3, Option.bind] at this; exact this.elim⟩
        | some r =>
          have q' : ∀ c1 H1, Nx c S H c1 S1 H1 → ∀ c' H', Nx c1 S1 H1 c' S1 H' → ∀ u, Rep c'.A H' r u → Q u H' := fun c1 H1 x1 c' H' x2 u hu => by
            have := q c1 H1 x1
            simp only [e2, e3, Option.bind] at this
            exact this c' H' x2 u hu
          unfold revD at e3
          split at e3
          · cases e3
            refine .inr ⟨c, ρ, S, hr, he, ?_⟩
            rw [e1]
            intro c1 H1 x1 u hu
            obtain ⟨a, vs, rfl, g1, g2, g3⟩ := ((lookR_rep x1.rel hu e2).plain (fun _ z => by cases z)).tup
            exact ⟨a, vs, rfl, SqT.of g1, fun p hp => q' c1 H1 x1 c1 _ (Nx.new x1.rel hp) _ (Rep.newTup x1.rel hp g3.reverse (by rw [List.length_reverse]; exact g2))⟩
          · cases e3
            refine .inl ⟨c, ρ, S, hr, he, ?_⟩
            rw [e1]
            intro c1 H1 x1 u hu
            obtain ⟨a, vs, rfl, g1, g2, g3⟩ := (lookR_rep x1.rel hu e2).list
            exact ⟨a, vs, rfl, g1, fun p hp => q' c1 H1 x1 c1 _ (Nx.new x1.rel hp) _ (Rep.newLst x1.rel hp g3.reverse (by rw [List.length_reverse]; exact g2))⟩
          · cases e3
/-! ### len(set(xs)) of ints -/
def distinct (ns : List Int) : List Int := ns.foldl step_dedup []
theorem firstMet_all (ns : List Int) : PyProof.Rows.firstMet (fun i => ns.getD i 0) ns.length = distinct ns := by
  unfold PyProof.Rows.firstMet distinct
  have : (List.range ns.length).map (fun i => ns.getD i 0) = ns := by
    apply List.ext_getElem?
    intro i
    by_cases h : i < ns.length
    · rw [List.getElem?_map, List.getElem?_range h, List.getElem?_eq_getElem h]
      show some (ns.getD i 0) = _
      rw [List.getD_eq_getElem?_getD, List.getElem?_eq_getElem h]; rfl
    · rw [List.getElem?_eq_none (by simp; omega), List.getElem?_eq_none (by omega)]
  rw [this]
def tLenSet (K : PySem.W.Frag) (ta : TE) : TE := fun σ H Q => ta σ H fun x H1 => ∃ (l : Addr) (ns : List Int), x = .ref l ∧ SqL K H1 l (ns.map V.int) ∧ ns.length ≤ 4000 ∧ Q (.int ((distinct ns).length : Nat)) H1
theorem pe_lenSet {a : Expr} {ta : TE} {p p2 q pos : Pos} (hg : Gl X "len") (hm : X.mg "len" = none) (hg2 : Gl X "set") (hm2 : X.mg "set" = none) (ha : PE X a ta) (hc : X.calm = true := by rfl)
    (na : starEach [a] X.env = (false, eval a X.env) :: starEach [] X.env := by rfl) : PE X (.Call (.Name "len" p) [.Call (.Name "set" p2) [a] [] q] [] pos) (tLenSet X.K ta) := by
  refine ⟨fun pins s σ H Q I h => ?_⟩
  refine Call_ (ld_blt I hg hm boot_len ?_)
  refine PyProof.Rows.callWith_builtin1 (PyProof.Rows.args_cons ?_ rfl) rfl rfl
  refine Call_ (ld_blt I hg2 hm2 boot_set ?_)
  refine PyProof.Rows.callWith_type1 (PyProof.Rows.args_cons (thn (ha.run pins s σ H _ I h) fun v s1 ⟨x, H1, I1, r1, q1⟩ => PyProof.Rows.args_nil ?_) na) na rfl
  obtain ⟨l, ns, rfl, hq, hl, q1⟩ := q1
  cases r1
  obtain ⟨its, r, pl, hz⟩ := I1.list hq
  have hlen : its.toArray.size = ns.length := by rw [List.size_toArray, ← r.length, List.length_map]
  refine call_set_list (I1.ok.hd hc) pl.isList (by simpa using RZ.intsAre_vals r) (by rw [hlen]; unfold scanBound; omega) fun h' tk hS hk => ?_
  refine PyProof.Rows.args_nil ?_
  have hle := PyProof.Rows.firstMet_length_le (fun i => ns.getD i 0) ns.length
  rw [hlen, firstMet_all] at hS
  rw [firstMet_all] at hle
  obtain ⟨o, es, ep, t, ho, hex, hd, _, _, _, hf, hn⟩ := hS
  have I2 : Inv X pins σ H1 { s1 with heap := h', toks := tk } := I1.kept fun b o e => hk b o (Heap.lt_size e) e
  exact call_len_set ho hex hd hf (by rw [hn] <;> omega) ⟨.int (distinct ns).length, H1, I2.tok _, ⟨_, by rw [hn]⟩, q1⟩
def eLenSet (f : Ex) : Ex := fun ρ S => (f ρ S).bind fun v S1 => match (lookR S1 v) with
  | some (.list xs) => match intsOf xs with
    | some ns => if ns.length ≤ 4000 then .ok (.d (.int ((distinct ns).length : Nat))) S1 else .bad
    | none => .bad
  | _ => .bad
theorem se_lenSet {a : Expr} {f : Ex} {p p2 q pos : Pos} (hg : Gl X "len") (hm : X.mg "len" = none) (hg2 : Gl X "set") (hm2 : X.mg "set" = none) (ha : SE X W a f) (hc : X.calm = true := by rfl)
    (na : starEach [a] X.env = (false, eval a X.env) :: starEach [] X.env := by rfl) : SE X W (.Call (.Name "len" p) [.Call (.Name "set" p2) [a] [] q] [] pos) (eLenSet f) :=
  PE.imp (pe_lenSet hg hm hg2 hm2 ha hc na) fun σ H Q ⟨c, ρ, S, hr, he, q⟩ => by
    refine ⟨c, ρ, S, hr, he, (Aft.bind hr q).mono fun v c1 S1 H1 x1 h1 u hu => ?_⟩
    split at h1
    · rename_i xs e
      split at h1
      · rename_i ns e2
        split at h1
        · rename_i hl
          obtain ⟨a, vs, rfl, g1, g2, g3⟩ := (lookR_rep x1.rel hu e).list
          rw [intsOf_rep g3 e2] at g1
          exact ⟨a, ns, rfl, g1, hl, h1 c1 H1 (Nx.refl x1.rel) _ (.int _)⟩
        · exact h1.elim
      · exact h1.elim
    · exact h1.elim
end
end DL

namespace DL
open PySem PySem.Spec PyProof.Rows L2
/-! ### the end -/
def spLaw (K : PySem.W.Frag) : Sp := fun vs H Q _ => ∃ (a : Addr) (ns : List Int), vs = [.ref a] ∧ SqL K H a (ns.map V.int) ∧ ns.length ≤ 63 ∧ ∀ H', Q (.bl true) H'
/-- what is left to be shown of the law in plain Lean -/
def LawTrue (F : Fn) : Prop := ∀ ns : List Int, ns.length ≤ 63 → ∃ S, F [.scr (ns.map .int)] [] = .ok (.d (.bool true)) S
theorem rep_ints {A : Addr → Prop} {H : Hp} : ∀ ns : List Int, RepL A H (ns.map .int) (ns.map V.int)
  | [] => .nil
  | n :: ns => .cons (.int n) (rep_ints ns)
theorem law_fn {P : Program} {w : World} {K : PySem.W.Frag} {mg : Str → Option Value} {base : Heap} {CX : CXT} {k : Nat} {f : Addr} {fd : FuncData} {ps : List Str} {F : Fn} (h : LawTrue F) (G : FnOk P w K mg base CX k f fd ps (spG K mg 1 F)) : FnOk P w K mg base CX k f fd ps (spLaw K) := by
  refine G.imp fun vs H Q E ⟨a, ns, e, hS, hl, q⟩ => ?_
  subst e
  obtain ⟨S, hF⟩ := h ns hl
  have hz : (ns.map V.int).length ≤ sizeLine := by rw [List.length_map, sizeLine_eq]; omega
  refine ⟨⟨[], fun _ => False⟩, [], [.scr (ns.map .int)], ⟨rfl, fun n _ a _ _ h => by simp at h, fun n a o h => by simp at h, fun _ z => z.elim, fun _ _ _ z => z⟩, .cons ⟨a, _, rfl, ?_, hz, rep_ints ns⟩ .nil, rfl, ?_⟩
  · rcases hS with hS | hS
    · exact .inl ⟨fun z => z, hS⟩
    · exact .inr fun H' => .inr hS
  · rw [hF]
    intro c' H' u x hu
    cases hu
    exact q H'
theorem walk_law {l : PySem.W.OpenLaw} {q : Program} {loose : List Str} {XP : (Str → Option Value) → Heap → Prop} {YP : World → Heap → Prop} {d : DefRec} {K : Params → PySem.W.Frag} {k : Nat} {x : Str} (hn : l.most = some 63) (hdf : d.params.defaults = []) (hr : Room k callerA)
    (hY : ∀ (w : World) (h : Heap), YP w h → (K w.params).In h)
    (F : ∀ (w : World) (mg : Str → Option Value) (fa : Addr) (h : Heap), (K w.params).In h → h.Ns mainGlobals mg → mg d.name = some (.ref fa) →
      ∃ fd : FuncData, (∀ (s : Shared) (u : Value), BindsTo s fd ⟨[u], []⟩ [(x, u)]) ∧ ∀ base : Heap, (K w.params).In base → base.Ns mainGlobals mg → FnOk l.prog w (K w.params) mg base (L2.CX l.prog w) k fa fd [x] (spLaw (K w.params))) :
    PySem.W.WalkO q loose XP YP l.row.toRowW d [] (fun f vs => PySem.call f vs) :=
  L2.walk_of (n := 63) (k := k) (x := x) (CX := fun w => L2.CX l.prog w) (sp := fun w => spLaw (K w.params)) hn (by decide) hdf hr hY F (fun _ _ a ns hl _ hS => ⟨a, ns, rfl, hS, hl, fun _ => rfl⟩) fun _ _ _ _ _ z => by
    obtain ⟨_, _, _, _, _, _, _, _, _, _, _, _, z⟩ := z
    exact z
/-! ### classes in except clauses -/
def mTab (tab : List (Str × Bool)) : Str → Option Bool := fun y => tab.lookup y
theorem mTab_ok {K : PySem.W.Frag} {mg : Str → Option Value} {cv : Value} : ∀ {tab : List (Str × Bool)}, (∀ p ∈ tab, ∀ C, mg p.1 = some (.ref C) → PySem.W.exmOne K (.ref C) cv = some p.2) → ∀ y b C, mTab tab y = some b → mg y = some (.ref C) → PySem.W.exmOne K (.ref C) cv = some b
  | [], _, y, b, C, h, _ => by cases h
  | (x, k) :: tab, H, y, b, C, h, hm => by
    unfold mTab at h
    rw [List.lookup_cons] at h
    by_cases e : (y == x) = true
    · rw [e] at h
      cases h
      have e' : y = x := eq_of_beq e
      subst e'
      exact H (y, k) List.mem_cons_self C hm
    · have e' : (y == x) = false := by simpa using e
      rw [e'] at h
      exact mTab_ok (tab := tab) (fun p hp => H p (List.mem_cons_of_mem _ hp)) y b C h hm
theorem tab_one {K : PySem.W.Frag} {mg : Str → Option Value} {cv : Value} {x : Str} {b : Bool} {C0 : Addr} (hg : mg x = some (.ref C0)) (h : PySem.W.exmOne K (.ref C0) cv = some b) {tab : List (Str × Bool)} (ht : ∀ p ∈ tab, ∀ C, mg p.1 = some (.ref C) → PySem.W.exmOne K (.ref C) cv = some p.2) :
    ∀ p ∈ (x, b) :: tab, ∀ C, mg p.1 = some (.ref C) → PySem.W.exmOne K (.ref C) cv = some p.2 := fun p hp C hc => by
  rcases List.mem_cons.mp hp with rfl | hp
  · rw [hg] at hc; cases hc; exact h
  · exact ht p hp C hc
theorem tab_nil {K : PySem.W.Frag} {mg : Str → Option Value} {cv : Value} : ∀ p ∈ ([] : List (Str × Bool)), ∀ C, mg p.1 = some (.ref C) → PySem.W.exmOne K (.ref C) cv = some p.2 := fun p hp => by cases hp
theorem exm_sub {K : PySem.W.Frag} {S C : Addr} {b : Bool} (h1 : PySem.W.subIn K (.ref S) (.type "BaseException") = some true) (h2 : PySem.W.isClsIn K S = true) (h3 : PySem.W.typeIn K (.ref S) = some (.type "type")) (h4 : PySem.W.subIn K (.ref C) (.ref S) = some b) :
    PySem.W.exmOne K (.ref C) (.ref S) = some b := by
  have e1 : (PySem.W.subIn K (.ref S) (.type "BaseException") == some true) = true := by rw [h1] <;> rfl
  have e2 : ((PySem.W.clsIn K S).isSome && PySem.W.typeIn K (.ref S) == some (.type "type")) = true := by
    have h2' : (PySem.W.clsIn K S).isSome = true := h2
    rw [h2', h3] <;> rfl
  show (if (PySem.W.subIn K (.ref S) (.type "BaseException") == some true) = true then (if ((PySem.W.clsIn K S).isSome && PySem.W.typeIn K (.ref S) == some (.type "type")) = true then PySem.W.subIn K (.ref C) (.ref S) else none) else none) = some b
  rw [if_pos e1, if_pos e2]
  exact h4
/-- what the top has written of an own error class -/
structure ExcT (K : PySem.W.Frag) (mg : Str → Option Value) (x : Str) (C : Addr) : Prop where
  g : mg x = some (.ref C)
  x : PySem.W.excIn K C [.type "ValueError", .type "Exception", .type "BaseException", .type "object"] "ValueError.__new__" = true
  k : PySem.W.keepIn K (.ref C) = true
  b : PySem.W.subIn K (.ref C) (.type "BaseException") = some true
  t : PySem.W.typeIn K (.ref C) = some (.type "type")
  i : PySem.W.isClsIn K C = true
theorem ss_raiseT {X : Cx} {W : WX} {pos : Pos} {C : Addr} {x m : Str} {j : Nat} {p p2 p3 : Pos} (T : ExcT X.K X.mg x C) (hc : X.calm = true) (tk : Takes X W) (hg : Gl X x) (hdb : (x == ("__debug__" : Str)) = false := by decide) :
    SS X W (.Raise (some (.Call (.Name x p) [.Constant (.str m) j p2] [] p3)) none pos) (sRaise ⟨x⟩) :=
  ss_raise hc tk T.g (pmk_own PySem.F.excBase_ValueError T.x T.g T.k (raises_own T.b T.t) hg hdb)
/-! ### small things -/
def fuelW : Nat := 100000
theorem sts_nil {X : Cx} : PTs X [] (tT X.K X.mg W0 tYesE) := ⟨fun pins s σ H Q I ⟨c, ρ, S, hr, he, q⟩ => pts_nil.run pins s σ H Q I (q c H (Nx.refl hr))⟩
theorem sts_one {X : Cx} {e : Expr} {t : Te} (h : ST X W0 e t) : PTs X [e] (tT X.K X.mg W0 t) := pts_one h
def addI (i j : Int) : Int := i + j
def subI (i j : Int) : Int := i - j
/-- x += e of ints -/
def sAug (i : Nat) (p : Int → Int → Int) (f : Ex) : Blk := fun ρ S => match ρ[i]? with
  | some (some (.d (.int k))) => (f ρ S).st ρ fun v S1 => match v with
    | .d (.int j) => .ok (.nx (ρ.set i (some (.d (.int (p k j)))))) S1
    | _ => .bad
  | _ => .bad
theorem ss_aug {X : Cx} {W : WX} {st : Stmt} {i : Nat} {p : Int → Int → Int} {f : Ex} (h : PS X st (tAug i (tE X.K X.mg W f) (ipI p))) : SS X W st (sAug i p f) := PS.imp h fun D σ H ⟨c, ρ, S, hr, he, q⟩ => by
  unfold sAug at q
  split at q
  · rename_i k e1
    obtain ⟨u, g1, g2⟩ := he.at' i _ e1
    cases g2
    refine ⟨_, g1, c, ρ, S, hr, he, (Aft.st hr he q).mono fun v c1 S1 H1 x1 h1 u hu => ?_⟩
    split at h1
    · cases hu
      exact ⟨_, _, rfl, rfl, h1 c1 _ H1 (Nx.refl x1.rel) ((he.keep hr x1).set (v := .d (.int _)) (u := .int _) (.int _) i)⟩
    · exact h1.elim
  · exact q.elim
theorem bt_len : bootBuiltins "len" = some (.builtin "len") := by decide +kernel
theorem bt_all : bootBuiltins "all" = some (.builtin "all") := by decide +kernel
theorem bt_any : bootBuiltins "any" = some (.builtin "any") := by decide +kernel
theorem bt_sum : bootBuiltins "sum" = some (.builtin "sum") := by decide +kernel
theorem bt_abs : bootBuiltins "abs" = some (.builtin "abs") := by decide +kernel
theorem bt_min : bootBuiltins "min" = some (.builtin "min") := by decide +kernel
theorem bt_max : bootBuiltins "max" = some (.builtin "max") := by decide +kernel
theorem bt_divmod : bootBuiltins "divmod" = some (.builtin "divmod") := by decide +kernel
theorem bt_isinstance : bootBuiltins "isinstance" = some (.builtin "isinstance") := by decide +kernel
theorem bt_sorted : bootBuiltins "sorted" = some (.builtin "sorted") := by decide +kernel
theorem bt_int : bootBuiltins "int" = some (.type "int") := by decide +kernel
theorem bt_str : bootBuiltins "str" = some (.type "str") := by decide +kernel
theorem bt_tuple : bootBuiltins "tuple" = some (.type "tuple") := by decide +kernel
theorem bt_list : bootBuiltins "list" = some (.type "list") := by decide +kernel
theorem bt_bool : bootBuiltins "bool" = some (.type "bool") := by decide +kernel
theorem bt_set : bootBuiltins "set" = some (.type "set") := by decide +kernel
theorem bt_dict : bootBuiltins "dict" = some (.type "dict") := by decide +kernel
theorem bt_range : bootBuiltins "range" = some (.type "range") := by decide +kernel
theorem bt_enumerate : bootBuiltins "enumerate" = some (.type "enumerate") := by decide +kernel
theorem bt_zip : bootBuiltins "zip" = some (.type "zip") := by decide +kernel
end DL

namespace DL
open PySem L2
/-! ### plain lemmas about the layer's functions -/
def intl (ns : List Int) : List D := ns.map PyData.int
theorem intl_nil : intl [] = [] := rfl
theorem intl_cons (n : Int) (r : List Int) : intl (n :: r) = .int n :: intl r := rfl
theorem intl_length (ns : List Int) : (intl ns).length = ns.length := List.length_map _
theorem canLay_ints : ∀ ns : List Int, PyData.canLayAll0 (intl ns) = true
  | [] => by simp [intl, PyData.canLayAll0]
  | n :: r => by simp [intl_cons, PyData.canLayAll0, PyData.canLay0, canLay_ints r]
theorem depth_ints : ∀ ns : List Int, PyData.depthAll (intl ns) ≤ 1
  | [] => by simp [intl, PyData.depthAll]
  | n :: r => by have := depth_ints r; simp [intl_cons, PyData.depthAll, PyData.depth]; omega
theorem shaped_list (ns : List Int) : SeqAt.shaped (.list (intl ns)) = true := by
  have := depth_ints ns
  have e : PyData.depthAll (intl ns) + 1 ≤ 64 := by omega
  simpa [SeqAt.shaped, PyData.canLay0, canLay_ints, PyData.depth] using e
theorem shaped_tuple (ns : List Int) : SeqAt.shaped (.tuple (intl ns)) = true := by
  have := depth_ints ns
  have e : PyData.depthAll (intl ns) + 1 ≤ 64 := by omega
  simpa [SeqAt.shaped, PyData.canLay0, canLay_ints, PyData.depth] using e
theorem shaped_int (i : Int) : SeqAt.shaped (.int i) = true := rfl
theorem shaped_bool (i : Bool) : SeqAt.shaped (.bool i) = true := rfl
theorem eqB_of {a b : D} (ha : SeqAt.shaped a = true) (hb : SeqAt.shaped b = true) (hs : ∀ x, a ≠ .str x) : eqB a b = some (PyData.eqv a b) := by
  unfold eqB
  split
  · exact absurd rfl (hs _)
  · rw [ha, hb]; rfl
theorem eqB_refl {d : D} (h : SeqAt.shaped d = true) : eqB d d = some true := by
  by_cases hs : ∃ x, d = .str x
  · obtain ⟨x, rfl⟩ := hs; simp [eqB]
  · rw [eqB_of h h fun x e => hs ⟨x, e⟩, SeqAt.eqv_refl _ (SeqAt.canLay_of_shaped h)]
theorem eqB_int (i j : Int) : eqB (.int i) (.int j) = some (i == j) := by
  rw [eqB_of rfl rfl (by intro x h; cases h)]; simp [PyData.eqv]
theorem eqB_bool (i j : Bool) : eqB (.bool i) (.bool j) = some (i == j) := by
  rw [eqB_of rfl rfl (by intro x h; cases h)]; simp [PyData.eqv]
theorem eqB_nil (ns : List Int) : eqB (.list (intl ns)) (.list []) = some ns.isEmpty := by
  rw [eqB_of (shaped_list ns) rfl (by intro x h; cases h)]
  cases ns <;> simp [PyData.eqv, intl, PyData.eqvAll]
theorem intsOf_ints : ∀ ns : List Int, intsOf (intl ns) = some ns
  | [] => rfl
  | n :: r => by simp [intl_cons, intsOf, intsOf_ints r]
def bls (bs : List Bool) : List D := bs.map PyData.bool
theorem blsOf_bls : ∀ ns : List Bool, blsOf (bls ns) = some ns
  | [] => rfl
  | n :: r => by have := blsOf_bls r; simp [bls] at this; simp [bls, blsOf, this]
/-! calls -/
theorem rebase_nil : ∀ (vs : List Val) (k : Nat), lent vs = [] → rebase vs k = vs
  | [], _, _ => rfl
  | .loc n :: r, _, h => by simp [lent] at h
  | .d x :: r, k, h => by simp [rebase, rebase_nil r k (by simpa [lent] using h)]
  | .scr x :: r, k, h => by simp [rebase, rebase_nil r k (by simpa [lent] using h)]
theorem callM_d {n : Nat} {F : Fn} {vs : List Val} {S S' : Sto} {r : D} (h : F vs [] = .ok (.d r) S') (hl : vs.length = n := by rfl) (h0 : lent vs = [] := by rfl) : callM n F vs S = .ok (.d r) S := by
  simp [callM, hl, h0, rebase_nil vs 0 h0, h, back, puts]
theorem callM_x {n : Nat} {F : Fn} {vs : List Val} {S S' : Sto} {r : XV} (h : F vs [] = .exc r S') (hl : vs.length = n := by rfl) (h0 : lent vs = [] := by rfl) : callM n F vs S = .exc r S := by
  simp [callM, hl, h0, rebase_nil vs 0 h0, h, puts]
theorem callD1 {F : Fn} {a : D} {S S' : Sto} {r : D} (h : F [.d a] [] = .ok (.d r) S') : callM 1 F [.d a] S = .ok (.d r) S := callM_d h
theorem callD2 {F : Fn} {a b : D} {S S' : Sto} {r : D} (h : F [.d a, .d b] [] = .ok (.d r) S') : callM 2 F [.d a, .d b] S = .ok (.d r) S := callM_d h
theorem callD3 {F : Fn} {a b c : D} {S S' : Sto} {r : D} (h : F [.d a, .d b, .d c] [] = .ok (.d r) S') : callM 3 F [.d a, .d b, .d c] S = .ok (.d r) S := callM_d h
theorem callD4 {F : Fn} {a b c e : D} {S S' : Sto} {r : D} (h : F [.d a, .d b, .d c, .d e] [] = .ok (.d r) S') : callM 4 F [.d a, .d b, .d c, .d e] S = .ok (.d r) S := callM_d h
theorem callX1 {F : Fn} {a : D} {S S' : Sto} {r : XV} (h : F [.d a] [] = .exc r S') : callM 1 F [.d a] S = .exc r S := callM_x h
theorem callX2 {F : Fn} {a b : D} {S S' : Sto} {r : XV} (h : F [.d a, .d b] [] = .exc r S') : callM 2 F [.d a, .d b] S = .exc r S := callM_x h
theorem callX3 {F : Fn} {a b c : D} {S S' : Sto} {r : XV} (h : F [.d a, .d b, .d c] [] = .exc r S') : callM 3 F [.d a, .d b, .d c] S = .exc r S := callM_x h
/-! comprehensions -/
theorem compL_ok {f : D → Sto → R (Option D)} {h : D → Option D} {S : Sto} : ∀ {ds : List D}, (∀ d ∈ ds, f d S = .ok (h d) S) → compL f ds S = .ok (ds.filterMap h) S
  | [], _ => rfl
  | d :: ds, hh => by
    rw [compL, hh d List.mem_cons_self]
    simp only [R.bind]
    rw [compL_ok fun x hx => hh x (List.mem_cons_of_mem _ hx)]
    simp only [R.bind, List.filterMap_cons]
    cases h d <;> rfl
theorem eLc_ok {fi : Iy} {vs : List Nat} {tg : Tg} {tt : Te} {fe : Ex} {ρ : Ev} {S S1 : Sto} {ds : List D} (h : D → Option D) (hi : fi ρ S = .ok ds S1) (hh : ∀ d ∈ ds, item vs tg tt fe ρ d S1 = .ok (h d) S1) :
    eLc fi vs tg tt fe ρ S = .ok (.d (.list (ds.filterMap h))) S1 := by
  simp only [eLc, cmp, hi, R.bind, compL_ok hh]
/-- a comprehension without a test -/
theorem eLc_map {fi : Iy} {i : Nat} {fe : Ex} {ρ : Ev} {S S1 : Sto} {ds : List D} (h : D → D) (hi : fi ρ S = .ok ds S1) (hh : ∀ d ∈ ds, fe (ρ.set i (some (.d d))) S1 = .ok (.d (h d)) S1) :
    eLc fi [i] (gNm i) tYesE fe ρ S = .ok (.d (.list (ds.map h))) S1 := by
  rw [eLc_ok (fun d => some (h d)) hi fun d hd => ?_, List.filterMap_eq_map']
  simp [item, gNm, wipeE, tYesE, R.noX, R.bind, hh d hd]
/-- a comprehension with a test -/
theorem eLc_if {fi : Iy} {i : Nat} {tt : Te} {fe : Ex} {ρ : Ev} {S S1 : Sto} {ds : List D} (p : D → Bool) (h : D → D) (hi : fi ρ S = .ok ds S1) (ht : ∀ d ∈ ds, tt (ρ.set i (some (.d d))) S1 = .ok (p d) S1)
    (hh : ∀ d ∈ ds, p d = true → fe (ρ.set i (some (.d d))) S1 = .ok (.d (h d)) S1) :
    eLc fi [i] (gNm i) tt fe ρ S = .ok (.d (.list ((ds.filter p).map h))) S1 := by
  rw [eLc_ok (fun d => if p d then some (h d) else none) hi fun d hd => ?_]
  · congr 3
    clear ht hh hi
    induction ds with
    | nil => rfl
    | cons d ds ih => by_cases z : p d <;> simp [List.filter_cons, z, ih]
  · simp only [item, gNm, wipeE, R.noX, R.bind, List.set_set, ht d hd]
    by_cases z : p d
    · simp [z, hh d hd z]
    · simp [z]
theorem eLcK_map {j i : Nat} {fe : Ex} {ρ : Ev} {S S1 : Sto} {ds : List D} (h : D → D) (hi : itKeys j ρ S = .ok ds S1) (hh : ∀ d ∈ ds, fe (ρ.set i (some (.d d))) S1 = .ok (.d (h d)) S1) :
    eLcK j [i] (gNm i) tYesE fe ρ S = .ok (.d (.list (ds.map h))) S1 := by
  simp only [eLcK, eLc_map h hi hh, R.noX]
/-! loops -/
theorem forN_nil {tg : Tg} {g : Blk} {ρ : Ev} {S : Sto} : forL tg g [] ρ S = .ok (.nx ρ) S := rfl
theorem forN_cons {i : Nat} {g : Blk} {d : D} {ds : List D} {ρ ρ1 ρ' : Ev} {S S' : Sto} {r : R Flow} (h1 : ρ.set i (some (.d d)) = ρ1) (h : g ρ1 S = .ok (.nx ρ') S') (h2 : forL (gNm i) g ds ρ' S' = r) : forL (gNm i) g (d :: ds) ρ S = r := by
  subst h1 h2
  simp only [forL, gNm, R.noX, R.st, h]
theorem forN_run {i : Nat} {g : Blk} (I : List D → Ev → Sto → Prop) (Q : R Flow → Prop) (hn : ∀ ρ S, I [] ρ S → Q (.ok (.nx ρ) S))
    (hs : ∀ d ds ρ S, I (d :: ds) ρ S → (∃ ρ' S', g (ρ.set i (some (.d d))) S = .ok (.nx ρ') S' ∧ I ds ρ' S') ∨ (∃ v S', g (ρ.set i (some (.d d))) S = .ok (.rt v) S' ∧ Q (.ok (.rt v) S'))) :
    ∀ (ds : List D) (ρ : Ev) (S : Sto), I ds ρ S → Q (forL (gNm i) g ds ρ S)
  | [], ρ, S, h => hn ρ S h
  | d :: ds, ρ, S, h => by
    simp only [forL, gNm, R.noX, R.st]
    rcases hs d ds ρ S h with ⟨ρ', S', e, h'⟩ | ⟨v, S', e, h'⟩
    · rw [e]; exact forN_run I Q hn hs ds ρ' S' h'
    · rw [e]; exact h'
theorem forN_inv {i : Nat} {g : Blk} (I : List D → Ev → Sto → Prop)
    (hs : ∀ d ds ρ S, I (d :: ds) ρ S → (∃ ρ' S', g (ρ.set i (some (.d d))) S = .ok (.nx ρ') S' ∧ I ds ρ' S')) {ds : List D} {ρ : Ev} {S : Sto} (h : I ds ρ S) : ∃ ρ' S', forL (gNm i) g ds ρ S = .ok (.nx ρ') S' ∧ I [] ρ' S' :=
  forN_run I (fun r => ∃ ρ' S', r = .ok (.nx ρ') S' ∧ I [] ρ' S') (fun ρ S h => ⟨ρ, S, rfl, h⟩) (fun d ds ρ S h => .inl (hs d ds ρ S h)) ds ρ S h
theorem rangeD_ints (i : Int) (n : Nat) : rangeD i n = intl ((List.range n).map fun k => i + (k : Nat)) := by simp [rangeD, intl]
theorem rgI_ok {i j : Int} (h0 : 0 ≤ i) (h1 : i ≤ 1000000) (h2 : j ≤ 1000000) (h3 : -1000000 ≤ j) : rgI i j = some (rangeD i (j - i).toNat) := by
  unfold rgI; rw [if_pos (by omega)]
theorem addD_int {i j : Int} : addD (.int i) (.int j) = some (.int (i + j)) := rfl
theorem subD_int {i j : Int} : subD (.int i) (.int j) = some (.int (i - j)) := rfl
theorem mulD_l {i j : Int} (h : smallI i = true) : mulD (.int i) (.int j) = some (.int (i * j)) := by simp [mulD, h]
theorem mulD_r {i j : Int} (h : smallI j = true) : mulD (.int i) (.int j) = some (.int (i * j)) := by simp [mulD, h]
theorem small_of {i : Int} (h : -18446744073709551616 < i) (h2 : i < 18446744073709551616) : smallI i = true := by simp [smallI, h, h2]
/-! steps -/
theorem sSeq_nx {g h : Blk} {ρ ρ1 : Ev} {S S1 : Sto} {r : R Flow} (hg : g ρ S = .ok (.nx ρ1) S1) (hh : h ρ1 S1 = r) : sSeq g h ρ S = r := by simp only [sSeq, hg, R.fl, hh]
theorem sSeq_rt {g h : Blk} {ρ : Ev} {S S1 : Sto} {v : Val} (hg : g ρ S = .ok (.rt v) S1) : sSeq g h ρ S = .ok (.rt v) S1 := by simp only [sSeq, hg, R.fl]
theorem sSeq_ex {g h : Blk} {ρ ρ1 : Ev} {S S1 : Sto} {v : XV} (hg : g ρ S = .ok (.ex v ρ1) S1) : sSeq g h ρ S = .ok (.ex v ρ1) S1 := by simp only [sSeq, hg, R.fl]
theorem sSet_ok {i : Nat} {f : Ex} {ρ ρ1 : Ev} {S S1 : Sto} {v : Val} (hf : f ρ S = .ok v S1) (h1 : ρ.set i (some v) = ρ1) : sSet i f ρ S = .ok (.nx ρ1) S1 := by subst h1; simp only [sSet, hf, R.st]
theorem sRet_ok {f : Ex} {ρ : Ev} {S S1 : Sto} {v : Val} (hf : f ρ S = .ok v S1) : sRet f ρ S = .ok (.rt v) S1 := by simp only [sRet, hf, R.st]
theorem sExpr_ok {f : Ex} {ρ : Ev} {S S1 : Sto} {v : Val} (hf : f ρ S = .ok v S1) : sExpr f ρ S = .ok (.nx ρ) S1 := by simp only [sExpr, hf, R.st]
theorem sExpr_x {f : Ex} {ρ : Ev} {S S1 : Sto} {v : XV} (hf : f ρ S = .exc v S1) : sExpr f ρ S = .ok (.ex v ρ) S1 := by simp only [sExpr, hf, R.st]
theorem sIf_t {t : Te} {g h : Blk} {ρ : Ev} {S S1 : Sto} {r : R Flow} (ht : t ρ S = .ok true S1) (hg : g ρ S1 = r) : sIf t g h ρ S = r := by simp only [sIf, ht, R.st, hg]
theorem sIf_f {t : Te} {g h : Blk} {ρ : Ev} {S S1 : Sto} {r : R Flow} (ht : t ρ S = .ok false S1) (hh : h ρ S1 = r) : sIf t g h ρ S = r := by simp only [sIf, ht, R.st, hh]
theorem sIf_skip {t : Te} {g : Blk} {ρ : Ev} {S S1 : Sto} (ht : t ρ S = .ok false S1) : sIf t g sNil ρ S = .ok (.nx ρ) S1 := by simp only [sIf, ht, R.st, sNil]
theorem sFor_ok {fi : Iy} {tg : Tg} {g : Blk} {ρ : Ev} {S S1 : Sto} {ds : List D} {r : R Flow} (hi : fi ρ S = .ok ds S1) (h : forL tg g ds ρ S1 = r) : sFor fi tg g ρ S = r := by simp only [sFor, hi, R.st, h]
theorem mkFn_rt {k : Nat} {g : Blk} {as : List Val} {ρ : Ev} {S S1 : Sto} {v : Val} (h0 : as.map some ++ List.replicate k none = ρ) (h : g ρ S = .ok (.rt v) S1) : mkFn k g as S = .ok v S1 := by subst h0; simp only [mkFn, h, fin]
theorem mkFn_nx {k : Nat} {g : Blk} {as : List Val} {ρ ρ1 : Ev} {S S1 : Sto} (h0 : as.map some ++ List.replicate k none = ρ) (h : g ρ S = .ok (.nx ρ1) S1) : mkFn k g as S = .ok (.d .none) S1 := by subst h0; simp only [mkFn, h, fin]
theorem mkFn_ex {k : Nat} {g : Blk} {as : List Val} {ρ ρ1 : Ev} {S S1 : Sto} {x : XV} (h0 : as.map some ++ List.replicate k none = ρ) (h : g ρ S = .ok (.ex x ρ1) S1) : mkFn k g as S = .exc x S1 := by subst h0; simp only [mkFn, h, fin]
theorem sScope_nx {g : Blk} {ρ ρ1 ρ2 : Ev} {S S1 S2 : Sto} (h : g ρ S = .ok (.nx ρ1) S1) (h1 : cutE S.length ρ1 = ρ2) (h2 : S1.take S.length = S2) : sScope g ρ S = .ok (.nx ρ2) S2 := by subst h1 h2; simp only [sScope, h]
theorem eAnd_f {f g : Ex} {ρ : Ev} {S S1 : Sto} (h : f ρ S = .ok (.d (.bool false)) S1) : eAnd f g ρ S = .ok (.d (.bool false)) S1 := by simp only [eAnd, h, R.bind]
theorem eAnd_t {f g : Ex} {ρ : Ev} {S S1 : Sto} {r : R Val} (h : f ρ S = .ok (.d (.bool true)) S1) (hg : g ρ S1 = r) : eAnd f g ρ S = r := by simp only [eAnd, h, R.bind, hg]
theorem eBin_ok {op : D → D → Option D} {fa fb : Ex} {ρ : Ev} {S S1 S2 : Sto} {a b c : D} (ha : fa ρ S = .ok (.d a) S1) (hb : fb ρ S1 = .ok (.d b) S2) (h : op a b = some c) : eBin op fa fb ρ S = .ok (.d c) S2 := by
  simp only [eBin, ha, hb, R.bind, op2, look, Option.bind, h, ofO]
theorem itR1_ok {fa : Ex} {ρ : Ev} {S S1 : Sto} {j : Int} {ds : List D} (h : fa ρ S = .ok (.d (.int j)) S1) (hr : rgI 0 j = some ds) : itR1 (aCons fa aNil) ρ S = .ok ds S1 := by
  simp only [itR1, aCons, aNil, h, R.bind, hr, ofL]
theorem itR2_ok {fa fb : Ex} {ρ : Ev} {S S1 S2 : Sto} {i j : Int} {ds : List D} (h : fa ρ S = .ok (.d (.int i)) S1) (h2 : fb ρ S1 = .ok (.d (.int j)) S2) (hr : rgI i j = some ds) : itR2 (aCons fa (aCons fb aNil)) ρ S = .ok ds S2 := by
  simp only [itR2, aCons, aNil, h, h2, R.bind, hr, ofL]
theorem eCB1_ok {op : List D → Option D} {fa : Ex} {ρ : Ev} {S S1 : Sto} {a c : D} (ha : fa ρ S = .ok (.d a) S1) (h : op [a] = some c) : eCB op (aCons fa aNil) ρ S = .ok (.d c) S1 := by
  simp only [eCB, aCons, aNil, ha, R.bind, lookAll, lookR, look, Option.bind, Option.map, h, ofO]
theorem eIx_ok {fa fb : Ex} {ρ : Ev} {S S1 S2 : Sto} {a b c : D} (ha : fa ρ S = .ok (.d a) S1) (hb : fb ρ S1 = .ok (.d b) S2) (h : ixD a b = some c) : eIx fa fb ρ S = .ok (.d c) S2 := by
  simp only [eIx, ha, hb, R.bind, op2R, lookR, look, Option.bind, h, ofO]
theorem eCall1_ok {F : Fn} {fa : Ex} {ρ : Ev} {S S1 S' : Sto} {a r : D} (ha : fa ρ S = .ok (.d a) S1) (h : F [.d a] [] = .ok (.d r) S') : eCall 1 F (aCons fa aNil) ρ S = .ok (.d r) S1 := by
  simp only [eCall, aCons, aNil, ha, R.bind]; exact callD1 h
theorem eCall2_ok {F : Fn} {fa fb : Ex} {ρ : Ev} {S S1 S2 S' : Sto} {a b r : D} (ha : fa ρ S = .ok (.d a) S1) (hb : fb ρ S1 = .ok (.d b) S2) (h : F [.d a, .d b] [] = .ok (.d r) S') : eCall 2 F (aCons fa (aCons fb aNil)) ρ S = .ok (.d r) S2 := by
  simp only [eCall, aCons, aNil, ha, hb, R.bind]; exact callD2 h
theorem eCall3_ok {F : Fn} {fa fb fc : Ex} {ρ : Ev} {S S1 S2 S3 S' : Sto} {a b c r : D} (ha : fa ρ S = .ok (.d a) S1) (hb : fb ρ S1 = .ok (.d b) S2) (hc : fc ρ S2 = .ok (.d c) S3) (h : F [.d a, .d b, .d c] [] = .ok (.d r) S') : eCall 3 F (aCons fa (aCons fb (aCons fc aNil))) ρ S = .ok (.d r) S3 := by
  simp only [eCall, aCons, aNil, ha, hb, hc, R.bind]; exact callD3 h
theorem eCall1_x {F : Fn} {fa : Ex} {ρ : Ev} {S S1 S' : Sto} {a : D} {r : XV} (ha : fa ρ S = .ok (.d a) S1) (h : F [.d a] [] = .exc r S') : eCall 1 F (aCons fa aNil) ρ S = .exc r S1 := by
  simp only [eCall, aCons, aNil, ha, R.bind]; exact callX1 h
theorem tNot_ok {f : Te} {ρ : Ev} {S S1 : Sto} {b : Bool} (h : f ρ S = .ok b S1) : tNotE f ρ S = .ok (!b) S1 := by simp only [tNotE, h, R.bind]
theorem tTru_b {f : Ex} {ρ : Ev} {S S1 : Sto} {b : Bool} (h : f ρ S = .ok (.d (.bool b)) S1) : tTru f ρ S = .ok b S1 := by simp only [tTru, h, R.bind, truV, look, Option.bind, truthD]
theorem tOf_b {f : Ex} {ρ : Ev} {S S1 : Sto} {b : Bool} (h : f ρ S = .ok (.d (.bool b)) S1) : tOf f ρ S = .ok b S1 := by simp only [tOf, h, R.bind, asB]
theorem tOr_f {f g : Te} {ρ : Ev} {S S1 : Sto} {r : R Bool} (h : f ρ S = .ok false S1) (hg : g ρ S1 = r) : tOrE f g ρ S = r := by simp only [tOrE, h, R.bind, hg]
theorem tOr_t {f g : Te} {ρ : Ev} {S S1 : Sto} (h : f ρ S = .ok true S1) : tOrE f g ρ S = .ok true S1 := by simp only [tOrE, h, R.bind]
theorem tAnd_t {f g : Te} {ρ : Ev} {S S1 : Sto} {r : R Bool} (h : f ρ S = .ok true S1) (hg : g ρ S1 = r) : tAndE f g ρ S = r := by simp only [tAndE, h, R.bind, hg]
theorem tAnd_f {f g : Te} {ρ : Ev} {S S1 : Sto} (h : f ρ S = .ok false S1) : tAndE f g ρ S = .ok false S1 := by simp only [tAndE, h, R.bind]
theorem whileN_f {t : Te} {g : Blk} {n : Nat} {ρ : Ev} {S S1 : Sto} (h : t ρ S = .ok false S1) : whileN t g (n + 1) ρ S = .ok (.nx ρ) S1 := by simp only [whileN, h, R.st]
theorem whileN_t {t : Te} {g : Blk} {n : Nat} {ρ ρ' : Ev} {S S1 S' : Sto} {r : R Flow} (h : t ρ S = .ok true S1) (hg : g ρ S1 = .ok (.nx ρ') S') (hr : whileN t g n ρ' S' = r) : whileN t g (n + 1) ρ S = r := by simp only [whileN, h, R.st, hg, hr]
theorem atI_n {α : Type} (xs : List α) (i : Nat) : atI xs (i : Int) = xs[i]? := by
  unfold atI ixN
  rw [if_pos (by omega)]
  by_cases h : i < xs.length
  · rw [if_pos (by omega)]; simp
  · rw [if_neg (by omega), List.getElem?_eq_none (by omega)]; rfl
theorem dedup_step (ks : List Int) (a : Int) : PyProof.Rows.step_dedup ks a = if a ∈ ks then ks else ks ++ [a] := by
  unfold PyProof.Rows.step_dedup
  by_cases m : a ∈ ks <;> simp [m]
theorem dedup_le : ∀ (ns ks : List Int), (ns.foldl PyProof.Rows.step_dedup ks).length ≤ ks.length + ns.length
  | [], ks => by simp
  | n :: r, ks => by
    have := dedup_le r (PyProof.Rows.step_dedup ks n)
    rw [dedup_step] at this
    simp only [List.foldl_cons, List.length_cons, dedup_step]
    split at this <;> simp only [*, if_true, if_false, List.length_append, List.length_singleton, List.length_cons, List.length_nil] at * <;> omega
theorem dedup_eq : ∀ (ns ks : List Int), (ns.foldl PyProof.Rows.step_dedup ks).length = ks.length + ns.length ↔ ns.Nodup ∧ ∀ n ∈ ns, n ∉ ks
  | [], ks => by simp
  | n :: r, ks => by
    simp only [List.foldl_cons, List.length_cons, dedup_step, List.nodup_cons, List.forall_mem_cons]
    by_cases z : n ∈ ks
    · have := dedup_le r ks
      simp only [if_pos z]
      constructor
      · intro h; omega
      · intro h; exact absurd z h.2.1
    · have := dedup_eq r (ks ++ [n])
      simp only [if_neg z]
      simp only [List.length_append, List.length_singleton] at this
      rw [show ks.length + (r.length + 1) = ks.length + 1 + r.length by omega, this]
      constructor
      · rintro ⟨h1, h2⟩
        exact ⟨⟨fun h => h2 n h (by simp), h1⟩, z, fun m hm hk => h2 m hm (by simp [hk])⟩
      · rintro ⟨⟨h1, h2⟩, _, h3⟩
        refine ⟨h2, fun m hm hk => ?_⟩
        simp only [List.mem_append, List.mem_singleton] at hk
        rcases hk with hk | rfl
        · exact h3 m hm hk
        · exact h1 hm
theorem distinct_eq (ns : List Int) : (distinct ns).length = ns.length ↔ ns.Nodup := by
  have := dedup_eq ns []
  simpa [distinct] using this
/-! the pool's numbers -/
def P64 : Int := 10 ^ 64
def P128 : Int := 10 ^ 128
def P192 : Int := 10 ^ 192
def P256 : Int := 10 ^ 256
def P320 : Int := 10 ^ 320
def P384 : Int := 10 ^ 384
theorem pw64 : powD (.int 10) (.int 64) = some (.int P64) := rfl
theorem pw18 : powD (.int 10) (.int 18) = some (.int 1000000000000000000) := rfl
theorem pw11 : powD (.int 10) (.int 11) = some (.int 100000000000) := rfl
theorem mulD_of {i j k : Int} (h : (smallI j || smallI i || decide (i.natAbs.log2 + j.natAbs.log2 < 1000000)) = true) (e : i * j = k) : mulD (.int i) (.int j) = some (.int k) := by
  subst e; simp only [mulD]; rw [if_pos h]
theorem ml128 : mulD (.int P64) (.int P64) = some (.int P128) := mulD_of (by decide +kernel) (by decide +kernel)
theorem ml192 : mulD (.int P128) (.int P64) = some (.int P192) := mulD_of (by decide +kernel) (by decide +kernel)
theorem ml256 : mulD (.int P192) (.int P64) = some (.int P256) := mulD_of (by decide +kernel) (by decide +kernel)
theorem ml320 : mulD (.int P256) (.int P64) = some (.int P320) := mulD_of (by decide +kernel) (by decide +kernel)
theorem ml384 : mulD (.int P320) (.int P64) = some (.int P384) := mulD_of (by decide +kernel) (by decide +kernel)
theorem ml384' : mulD (.int P192) (.int P192) = some (.int P384) := mulD_of (by decide +kernel) (by decide +kernel)
theorem P384_pos : 0 < P384 := by decide +kernel
theorem modD_ok {i j : Int} (h : 0 < j) : modD (.int i) (.int j) = some (.int (i % j)) := by simp [modD, h]
theorem cutD_map {α β : Type} (f : α → β) (xs : List α) (lo hi : Option Int) : cutD (xs.map f) lo hi = (cutD xs lo hi).map f := by
  simp [cutD, List.map_drop, List.map_take]
theorem sumD_cut (ns : List Int) (lo hi : Option Int) : sumD [.list (cutD (intl ns) lo hi)] = some (.int (cutD ns lo hi).sum) := by
  rw [intl, cutD_map]
  show (intsOf (intl _)).map _ = _
  rw [intsOf_ints]; rfl
end DL

namespace Law
open PySem DL
def b_is_whole : Blk := (sRet (eAnd (eIsi "int" (eVar 0)) (eNot (eIsi "bool" (eVar 0)))))
def F_is_whole : Fn := mkFn 0 b_is_whole
def b_is_within : Blk := (sRet (eAnd (eCall 1 F_is_whole (aCons (eVar 0) aNil)) (eChain leD leD (eVar 1) (eVar 0) (eVar 2))))
def F_is_within : Fn := mkFn 0 b_is_within
def b_is_span : Blk := (sSeq (sIf (tOrE (tNotE (tTru (eIsi "tuple" (eVar 0)))) (tOf (eBin neD (eCB lenD (aCons (eVar 0) aNil)) (eC (.int 4))))) (sRet (eC (.bool false))) sNil) (sSeq (sAsg (eVar 0) (gTp 4 (gsCons (gNm 3) (gsCons (gNm 4) (gsCons (gNm 5) (gsCons (gNm 6) gsNil)))))) (sSeq (sIf (tOrE (tNotE (tTru (eCall 3 F_is_within (aCons (eVar 3) (aCons (eC (.int 0)) (aCons (eBin subD (eVar 2) (eC (.int 1))) aNil)))))) (tOrE (tNotE (tTru (eCall 3 F_is_within (aCons (eVar 4) (aCons (eC (.int 1)) (aCons (eBin subD (eVar 2) (eC (.int 1))) aNil)))))) (tOf (eBin eqD (eVar 3) (eVar 4))))) (sRet (eC (.bool false))) sNil) (sRet (eAnd (eCall 3 F_is_within (aCons (eVar 6) (aCons (eC (.int 1)) (aCons (eVar 1) aNil)))) (eCall 3 F_is_within (aCons (eVar 5) (aCons (eC (.int 1)) (aCons (eVar 6) aNil)))))))))
def F_is_span : Fn := mkFn 4 b_is_span
def b_is_bound : Blk := (sSeq (sIf (tOrE (tNotE (tTru (eIsi "tuple" (eVar 0)))) (tOf (eBin neD (eCB lenD (aCons (eVar 0) aNil)) (eC (.int 3))))) (sRet (eC (.bool false))) sNil) (sSeq (sAsg (eVar 0) (gTp 3 (gsCons (gNm 2) (gsCons (gNm 3) (gsCons (gNm 4) gsNil))))) (sSeq (sIf (tOrE (tNotE (tTru (eCall 3 F_is_within (aCons (eVar 2) (aCons (eC (.int 0)) (aCons (eBin subD (eVar 1) (eC (.int 1))) aNil)))))) (tOrE (tNotE (tTru (eCall 3 F_is_within (aCons (eVar 3) (aCons (eC (.int 0)) (aCons (eBin subD (eVar 1) (eC (.int 1))) aNil)))))) (tOf (eBin eqD (eVar 2) (eVar 3))))) (sRet (eC (.bool false))) sNil) (sRet (eCall 3 F_is_within (aCons (eVar 4) (aCons (eBin subD (eC (.int 0)) (eC (.int 60))) (aCons (eC (.int 60)) aNil))))))))
def F_is_bound : Fn := mkFn 3 b_is_bound
def spans_by_goal_L1 : Blk := (sPut setD (eVar 1) (eIx (eVar 3) (eC (.int 1))) (eVar 2))
def b_spans_by_goal : Blk := (sSeq (sSet 1 eDicM) (sSeq (sFor (itEnum (aCons (eVar 0) aNil)) (gTp 2 (gsCons (gNm 2) (gsCons (gNm 3) gsNil))) spans_by_goal_L1) (sRet (eFrz (eVar 1)))))
def F_spans_by_goal : Fn := mkFn 3 b_spans_by_goal
def way_from_T1 : Te := (tAndE (tOf (eBin inD (eVar 2) (eVar 1))) (tOf (eBin leD (eCB lenD (aCons (eVar 3) aNil)) (eCB lenD (aCons (eVar 0) aNil)))))
def way_from_W2 : Blk := (sSeq (sExpr (eApp (eVar 3) (eIx (eVar 1) (eVar 2)))) (sSet 2 (eIx (eIx (eVar 0) (eIx (eVar 1) (eVar 2))) (eC (.int 0)))))
def b_way_from : Blk := (sSeq (sSet 3 (eLstM aNil)) (sSeq (whileN way_from_T1 way_from_W2 fuelW) (sRet (eFrz (eVar 3)))))
def F_way_from : Fn := mkFn 1 b_way_from
def are_spans_E1 : Ex := (eCall 3 F_is_span (aCons (eVar 4) (aCons (eVar 1) (aCons (eVar 2) aNil))))
def are_spans_E2 : Ex := (eBin leD (eCB lenD (aCons (eCall 3 F_way_from (aCons (eVar 0) (aCons (eVar 3) (aCons (eVar 5) aNil)))) aNil)) (eCB lenD (aCons (eVar 0) aNil)))
def b_are_spans : Blk := (sSeq (sIf (tOrE (tNotE (tTru (eIsi "tuple" (eVar 0)))) (tOf (eBin gtD (eCB lenD (aCons (eVar 0) aNil)) (eC (.int 4))))) (sRet (eC (.bool false))) sNil) (sSeq (sIf (tNotE (tTru (eCB allBD (aCons (eLc (itSeq (eVar 0)) [4] (gNm 4) tYesE are_spans_E1) aNil)))) (sRet (eC (.bool false))) sNil) (sSeq (sSet 3 (eCall 1 F_spans_by_goal (aCons (eVar 0) aNil))) (sRet (eAnd (eBin eqD (eCB lenD (aCons (eVar 3) aNil)) (eCB lenD (aCons (eVar 0) aNil))) (eCB allBD (aCons (eLcK 3 [5] (gNm 5) tYesE are_spans_E2) aNil)))))))
def F_are_spans : Fn := mkFn 3 b_are_spans
def is_book_E1 : Ex := (eCall 2 F_is_bound (aCons (eVar 5) (aCons (eVar 2) aNil)))
def b_is_book : Blk := (sSeq (sIf (tOrE (tNotE (tTru (eIsi "tuple" (eVar 0)))) (tOf (eBin neD (eCB lenD (aCons (eVar 0) aNil)) (eC (.int 4))))) (sRet (eC (.bool false))) sNil) (sSeq (sAsg (eVar 0) (gTp 4 (gsCons (gNm 1) (gsCons (gNm 2) (gsCons (gNm 3) (gsCons (gNm 4) gsNil)))))) (sSeq (sIf (tOrE (tNotE (tTru (eCall 3 F_is_within (aCons (eVar 1) (aCons (eC (.int 1)) (aCons (eC (.int 60)) aNil)))))) (tOrE (tNotE (tTru (eCall 3 F_is_within (aCons (eVar 2) (aCons (eC (.int 1)) (aCons (eC (.int 10)) aNil)))))) (tNotE (tTru (eCall 3 F_are_spans (aCons (eVar 3) (aCons (eVar 1) (aCons (eVar 2) aNil)))))))) (sRet (eC (.bool false))) sNil) (sSeq (sIf (tOrE (tNotE (tTru (eIsi "tuple" (eVar 4)))) (tOf (eBin gtD (eCB lenD (aCons (eVar 4) aNil)) (eC (.int 30))))) (sRet (eC (.bool false))) sNil) (sRet (eCB allBD (aCons (eLc (itSeq (eVar 4)) [5] (gNm 5) tYesE is_book_E1) aNil)))))))
def F_is_book : Fn := mkFn 5 b_is_book
def b_check_book : Blk := (sIf (tNotE (tTru (eCall 1 F_is_book (aCons (eVar 0) aNil)))) (sRaise ⟨"NoBook"⟩) sNil)
def F_check_book : Fn := mkFn 0 b_check_book
def b_check_mark : Blk := (sIf (tNotE (tTru (eCall 3 F_is_within (aCons (eVar 1) (aCons (eC (.int 0)) (aCons (eBin subD (eIx (eVar 0) (eC (.int 1))) (eC (.int 1))) aNil)))))) (sRaise ⟨"NoMark"⟩) sNil)
def F_check_mark : Fn := mkFn 0 b_check_mark
def b_froms : Blk := (sRet (eCall 1 F_spans_by_goal (aCons (eIx (eVar 0) (eC (.int 2))) aNil)))
def F_froms : Fn := mkFn 0 b_froms
def ways_of_E1 : Ex := (eCall 3 F_way_from (aCons (eIx (eVar 0) (eC (.int 2))) (aCons (eVar 1) (aCons (eVar 2) aNil))))
def b_ways_of : Blk := (sSeq (sSet 1 (eCall 1 F_froms (aCons (eVar 0) aNil))) (sRet (eLc (itR1 (aCons (eIx (eVar 0) (eC (.int 1))) aNil)) [2] (gNm 2) tYesE ways_of_E1)))
def F_ways_of : Fn := mkFn 2 b_ways_of
def chosen_I1 : Te := (tOf (eBin ninD (eVar 2) (eVar 1)))
def chosen_E2 : Ex := (eVar 2)
def b_chosen : Blk := (sSeq (sExpr (eCall 1 F_check_book (aCons (eVar 0) aNil))) (sSeq (sSet 1 (eCall 1 F_froms (aCons (eVar 0) aNil))) (sRet (eCB tupleD (aCons (eLc (itR2 (aCons (eC (.int 1)) (aCons (eIx (eVar 0) (eC (.int 1))) aNil))) [2] (gNm 2) chosen_I1 chosen_E2) aNil)))))
def F_chosen : Fn := mkFn 2 b_chosen
def root_L1 : Blk := (sSet 1 (eIx (eIx (eIx (eVar 0) (eC (.int 2))) (eVar 2)) (eC (.int 0))))
def b_root : Blk := (sSeq (sExpr (eCall 1 F_check_book (aCons (eVar 0) aNil))) (sSeq (sExpr (eCall 2 F_check_mark (aCons (eVar 0) (aCons (eVar 1) aNil)))) (sSeq (sFor (itSeq (eIx (eCall 1 F_ways_of (aCons (eVar 0) aNil)) (eVar 1))) (gNm 2) root_L1) (sRet (eVar 1)))))
def F_root : Fn := mkFn 1 b_root
def b_show_book : Blk := (sSeq (sExpr (eCall 1 F_check_book (aCons (eVar 0) aNil))) sBad)
def F_show_book : Fn := mkFn 6 b_show_book
def m_law_pool_L1 : Blk := (sSeq (sSet 3 (eBin modD (eBin addD (eBin addD (eBin mulD (eBin modD (eVar 3) (eC (.int 999999999989))) (eC (.int 69621))) (eBin mulD (eC (.int 40503)) (eVar 5))) (eC (.int 271))) (eC (.int 999999999989)))) (sSet 4 (eBin addD (eBin mulD (eVar 4) (eBin powD (eC (.int 10)) (eC (.int 11)))) (eBin modD (eBin mulD (eVar 3) (eBin addD (eBin modD (eVar 3) (eC (.int 65537))) (eC (.int 3)))) (eC (.int 99999999977))))))
def b__law_pool : Blk := (sSeq (sSet 2 (eCB sumD (aCons (eSl (eVar 0) (pSome (eVar 1)) (pSome (eBin addD (eVar 1) (eC (.int 1))))) aNil))) (sSeq (sIf (tOrE (tOf (eBin ltD (eVar 2) (eC (.int 0)))) (tOf (eBin geD (eVar 2) (eBin powD (eC (.int 10)) (eC (.int 18)))))) (sRet (eLstM (aCons (eBin modD (eCB absD (aCons (eVar 2) aNil)) (eBin mulD (eBin mulD (eBin mulD (eBin mulD (eBin mulD (eBin powD (eC (.int 10)) (eC (.int 64))) (eBin powD (eC (.int 10)) (eC (.int 64)))) (eBin powD (eC (.int 10)) (eC (.int 64)))) (eBin powD (eC (.int 10)) (eC (.int 64)))) (eBin powD (eC (.int 10)) (eC (.int 64)))) (eBin powD (eC (.int 10)) (eC (.int 64))))) aNil))) sNil) (sSeq (sSet 3 (eBin addD (eBin addD (eBin mulD (eVar 2) (eC (.int 48271))) (eBin mulD (eBin mulD (eC (.int 977)) (eVar 1)) (eVar 1))) (eC (.int 13)))) (sSeq (sSet 4 (eC (.int 0))) (sSeq (sFor (itR1 (aCons (eC (.int 27)) aNil)) (gNm 5) m_law_pool_L1) (sRet (eLstM (aCons (eVar 4) aNil))))))))
def F__law_pool : Fn := mkFn 4 b__law_pool
def b__law_take : Blk := (sSeq (sAsg (eCB divmodD (aCons (eIx (eVar 0) (eC (.int 0))) (aCons (eVar 1) aNil))) (gTp 2 (gsCons (gSb setL (eVar 0) (eC (.int 0))) (gsCons (gNm 2) gsNil)))) (sRet (eVar 2)))
def F__law_take : Fn := mkFn 1 b__law_take
def m_law_root_I1 : Te := (tOf (eBin eqD (eIx (eVar 4) (eC (.int 1))) (eVar 1)))
def m_law_root_E2 : Ex := (eIx (eVar 4) (eC (.int 0)))
def m_law_root_L3 : Blk := (sSeq (sSet 3 (eLc (itSeq (eVar 0)) [4] (gNm 4) m_law_root_I1 m_law_root_E2)) (sSeq (sIf (tOf (eBin eqD (eVar 3) (eLst aNil))) (sRet (eVar 1)) sNil) (sSet 1 (eIx (eVar 3) (eC (.int 0))))))
def b__law_root : Blk := (sSeq (sFor (itR1 (aCons (eBin addD (eCB lenD (aCons (eVar 0) aNil)) (eC (.int 1))) aNil)) (gNm 2) m_law_root_L3) (sRet (eC .none)))
def F__law_root : Fn := mkFn 3 b__law_root
def m_law_any_spans_L1 : Blk := (sSeq (sSet 5 (eBin addD (eC (.int 1)) (eCall 2 F__law_take (aCons (eVar 0) (aCons (eBin subD (eVar 1) (eC (.int 1))) aNil))))) (sSeq (sSet 6 (eBin modD (eBin addD (eBin addD (eVar 5) (eC (.int 1))) (eCall 2 F__law_take (aCons (eVar 0) (aCons (eBin subD (eVar 1) (eC (.int 1))) aNil)))) (eVar 1))) (sSeq (sSet 7 (eBin addD (eC (.int 1)) (eCall 2 F__law_take (aCons (eVar 0) (aCons (eVar 2) aNil))))) (sExpr (eApp (eVar 3) (eTup (aCons (eVar 6) (aCons (eVar 5) (aCons (eVar 7) (aCons (eBin addD (eVar 7) (eCall 2 F__law_take (aCons (eVar 0) (aCons (eBin subD (eBin addD (eVar 2) (eC (.int 1))) (eVar 7)) aNil)))) aNil))))))))))
def b__law_any_spans : Blk := (sSeq (sSet 3 (eLstM aNil)) (sSeq (sFor (itR1 (aCons (eBin addD (eC (.int 1)) (eCall 2 F__law_take (aCons (eVar 0) (aCons (eC (.int 4)) aNil)))) aNil)) (gNm 4) m_law_any_spans_L1) (sRet (eCB tupleD (aCons (eVar 3) aNil)))))
def F__law_any_spans : Fn := mkFn 5 b__law_any_spans
def b__law_refused : Blk := (sSeq (sSet 1 (eC (.int 0))) (sSeq (sTry (mTab [("NoBook", true)]) (sExpr (eCall 1 F_chosen (aCons (eVar 0) aNil))) (sSet 1 (eBin addD (eVar 1) (eC (.int 1))))) (sSeq (sTry (mTab [("NoBook", true)]) (sExpr (eCall 1 F_show_book (aCons (eVar 0) aNil))) (sSet 1 (eBin addD (eVar 1) (eC (.int 1))))) (sRet (eBin eqD (eVar 1) (eC (.int 2)))))))
def F__law_refused : Fn := mkFn 1 b__law_refused
def m_law_right_E1 : Ex := (eIx (eVar 9) (eC (.int 1)))
def m_law_right_E2 : Ex := (eCall 2 F__law_root (aCons (eVar 3) (aCons (eVar 10) aNil)))
def m_law_right_I3 : Te := (tOf (eBin ninD (eVar 10) (eVar 5)))
def m_law_right_E4 : Ex := (eVar 10)
def m_law_right_E5 : Ex := (eCall 2 F_root (aCons (eVar 0) (aCons (eVar 10) aNil)))
def b__law_right : Blk := (sSeq (sAsg (eVar 0) (gTp 4 (gsCons (gNm 1) (gsCons (gNm 2) (gsCons (gNm 3) (gsCons (gNm 4) gsNil)))))) (sSeq (sSet 5 (eLc (itSeq (eVar 3)) [9] (gNm 9) tYesE m_law_right_E1)) (sSeq (sSet 6 (eLc (itR1 (aCons (eVar 2) aNil)) [10] (gNm 10) tYesE m_law_right_E2)) (sSeq (sSet 7 (eAnd (eBin eqD (eLenSet (eVar 5)) (eCB lenD (aCons (eVar 5) aNil))) (eBin ninD (eC .none) (eVar 6)))) (sSeq (sSet 8 (eCall 1 F_is_book (aCons (eVar 0) aNil))) (sSeq (sIf (tOrE (tNotE (tTru (eIsi "bool" (eVar 8)))) (tOf (eBin neD (eVar 8) (eVar 7)))) (sRet (eC (.bool false))) sNil) (sSeq (sIf (tNotE (tTru (eVar 7))) (sRet (eCall 1 F__law_refused (aCons (eVar 0) aNil))) sNil) (sSeq (sIf (tOf (eBin neD (eCall 1 F_chosen (aCons (eVar 0) aNil)) (eCB tupleD (aCons (eLc (itR2 (aCons (eC (.int 1)) (aCons (eVar 2) aNil))) [10] (gNm 10) m_law_right_I3 m_law_right_E4) aNil)))) (sRet (eC (.bool false))) sNil) (sRet (eBin eqD (eLc (itR1 (aCons (eVar 2) aNil)) [10] (gNm 10) tYesE m_law_right_E5) (eVar 6)))))))))))
def F__law_right : Fn := mkFn 10 b__law_right
def law_L1 : Blk := (sScope (sSeq (sSet 2 (eCall 2 F__law_pool (aCons (eVar 0) (aCons (eVar 1) aNil)))) (sSeq (sSet 3 (eIx (eLst (aCons (eBin addD (eC (.int 2)) (eCall 2 F__law_take (aCons (eVar 2) (aCons (eC (.int 5)) aNil)))) (aCons (eC (.int 10)) aNil))) (eCB intD (aCons (eBin eqD (eCall 2 F__law_take (aCons (eVar 2) (aCons (eC (.int 4)) aNil))) (eC (.int 3))) aNil)))) (sSeq (sSet 4 (eBin addD (eC (.int 1)) (eCall 2 F__law_take (aCons (eVar 2) (aCons (eC (.int 60)) aNil))))) (sSeq (sSet 5 (eCall 3 F__law_any_spans (aCons (eVar 2) (aCons (eVar 3) (aCons (eVar 4) aNil))))) (sIf (tOrE (tNotE (tTru (eCall 1 F__law_right (aCons (eTup (aCons (eVar 4) (aCons (eVar 3) (aCons (eVar 5) (aCons (eTup aNil) aNil))))) aNil)))) (tNotE (tTru (eCall 1 F__law_right (aCons (eTup (aCons (eVar 4) (aCons (eVar 3) (aCons (eRev (eVar 5)) (aCons (eTup (aCons (eTup (aCons (eC (.int 0)) (aCons (eBin subD (eVar 3) (eC (.int 1))) (aCons (eVar 4) aNil)))) aNil)) aNil))))) aNil))))) (sRet (eC (.bool false))) sNil))))))
def law_E2 : Ex := (eCall 1 F__law_right (aCons (eTup (aCons (eC (.int 9)) (aCons (eC (.int 5)) (aCons (eVar 5) (aCons (eTup aNil) aNil))))) aNil))
def b_law : Blk := (sSeq (sFor (itR1 (aCons (eCB max2D (aCons (eC (.int 2)) (aCons (eCB min2D (aCons (eCB lenD (aCons (eVar 0) aNil)) (aCons (eC (.int 30)) aNil))) aNil))) aNil)) (gNm 1) law_L1) (sSeq (sSet 6 (eTup (aCons (eTup (aCons (eC (.int 1)) (aCons (eC (.int 2)) (aCons (eC (.int 1)) (aCons (eC (.int 1)) aNil))))) (aCons (eTup (aCons (eC (.int 2)) (aCons (eC (.int 3)) (aCons (eC (.int 1)) (aCons (eC (.int 1)) aNil))))) (aCons (eTup (aCons (eC (.int 3)) (aCons (eC (.int 4)) (aCons (eC (.int 1)) (aCons (eC (.int 1)) aNil))))) (aCons (eTup (aCons (eC (.int 4)) (aCons (eC (.int 1)) (aCons (eC (.int 1)) (aCons (eC (.int 1)) aNil))))) aNil)))))) (sSeq (sSet 7 (eTup (aCons (eTup (aCons (eC (.int 3)) (aCons (eC (.int 4)) (aCons (eC (.int 1)) (aCons (eC (.int 1)) aNil))))) (aCons (eTup (aCons (eC (.int 1)) (aCons (eC (.int 2)) (aCons (eC (.int 1)) (aCons (eC (.int 1)) aNil))))) (aCons (eTup (aCons (eC (.int 2)) (aCons (eC (.int 3)) (aCons (eC (.int 1)) (aCons (eC (.int 1)) aNil))))) (aCons (eTup (aCons (eC (.int 0)) (aCons (eC (.int 1)) (aCons (eC (.int 1)) (aCons (eC (.int 1)) aNil))))) aNil)))))) (sRet (eCB allBD (aCons (eLc (itSeq (eLst (aCons (eVar 6) (aCons (eVar 7) (aCons (eSl (eVar 6) pNone (pSome (eC (.int 3)))) (aCons (eSl (eVar 7) pNone (pSome (eC (.int 3)))) (aCons (eBin addD (eSl (eVar 6) pNone (pSome (eC (.int 2)))) (eSl (eVar 7) pNone (pSome (eC (.int 1))))) aNil))))))) [5] (gNm 5) tYesE law_E2) aNil))))))
def F_law : Fn := mkFn 7 b_law
end Law

namespace Law
open PySem L2 DL
def topS (i : Nat) : Stmt := PySem.Challenge.pw_loosehours_k03_spans_that_hang.main.body.getD i (.Pass ⟨0, 0, 0, 0⟩)
abbrev s_is_whole : Stmt := topS 10
theorem sc_is_whole : FnScope ["x"] ["x"] (defScope s_is_whole) := ⟨rfl, rfl, rfl, by decide +kernel, rfl, by decide +kernel, by decide +kernel⟩
abbrev s_is_within : Stmt := topS 11
theorem sc_is_within : FnScope ["x", "least", "most"] ["x", "least", "most"] (defScope s_is_within) := ⟨rfl, rfl, rfl, by decide +kernel, rfl, by decide +kernel, by decide +kernel⟩
abbrev s_is_span : Stmt := topS 12
theorem sc_is_span : FnScope ["thing", "end", "many", "one", "other", "least", "most"] ["thing", "end", "many"] (defScope s_is_span) := ⟨rfl, rfl, rfl, by decide +kernel, rfl, by decide +kernel, by decide +kernel⟩
abbrev s_is_bound : Stmt := topS 13
theorem sc_is_bound : FnScope ["thing", "many", "one", "other", "number"] ["thing", "many"] (defScope s_is_bound) := ⟨rfl, rfl, rfl, by decide +kernel, rfl, by decide +kernel, by decide +kernel⟩
abbrev s_spans_by_goal : Stmt := topS 14
theorem sc_spans_by_goal : FnScope ["spans", "found", "at", "span"] ["spans"] (defScope s_spans_by_goal) := ⟨rfl, rfl, rfl, by decide +kernel, rfl, by decide +kernel, by decide +kernel⟩
abbrev s_way_from : Stmt := topS 15
theorem sc_way_from : FnScope ["spans", "known", "mark", "found"] ["spans", "known", "mark"] (defScope s_way_from) := ⟨rfl, rfl, rfl, by decide +kernel, rfl, by decide +kernel, by decide +kernel⟩
abbrev s_are_spans : Stmt := topS 16
theorem sc_are_spans : FnScope ["thing", "end", "many", "known", "span", "mark"] ["thing", "end", "many"] (defScope s_are_spans) := ⟨rfl, rfl, rfl, by decide +kernel, rfl, by decide +kernel, by decide +kernel⟩
abbrev s_is_book : Stmt := topS 17
theorem sc_is_book : FnScope ["thing", "end", "many", "spans", "bounds", "bound"] ["thing"] (defScope s_is_book) := ⟨rfl, rfl, rfl, by decide +kernel, rfl, by decide +kernel, by decide +kernel⟩
abbrev s_check_book : Stmt := topS 18
theorem sc_check_book : FnScope ["book"] ["book"] (defScope s_check_book) := ⟨rfl, rfl, rfl, by decide +kernel, rfl, by decide +kernel, by decide +kernel⟩
abbrev s_check_mark : Stmt := topS 19
theorem sc_check_mark : FnScope ["book", "mark"] ["book", "mark"] (defScope s_check_mark) := ⟨rfl, rfl, rfl, by decide +kernel, rfl, by decide +kernel, by decide +kernel⟩
abbrev s_froms : Stmt := topS 20
theorem sc_froms : FnScope ["book"] ["book"] (defScope s_froms) := ⟨rfl, rfl, rfl, by decide +kernel, rfl, by decide +kernel, by decide +kernel⟩
abbrev s_ways_of : Stmt := topS 21
theorem sc_ways_of : FnScope ["book", "known", "mark"] ["book"] (defScope s_ways_of) := ⟨rfl, rfl, rfl, by decide +kernel, rfl, by decide +kernel, by decide +kernel⟩
abbrev s_chosen : Stmt := topS 22
theorem sc_chosen : FnScope ["book", "known", "mark"] ["book"] (defScope s_chosen) := ⟨rfl, rfl, rfl, by decide +kernel, rfl, by decide +kernel, by decide +kernel⟩
abbrev s_root : Stmt := topS 23
theorem sc_root : FnScope ["book", "mark", "at"] ["book", "mark"] (defScope s_root) := ⟨rfl, rfl, rfl, by decide +kernel, rfl, by decide +kernel, by decide +kernel⟩
abbrev s_show_book : Stmt := topS 25
theorem sc_show_book : FnScope ["book", "rows", "one", "other", "least", "most", "number"] ["book"] (defScope s_show_book) := ⟨rfl, rfl, rfl, by decide +kernel, rfl, by decide +kernel, by decide +kernel⟩
abbrev s__law_pool : Stmt := topS 27
theorem sc__law_pool : FnScope ["_law_script", "_law_k", "_law_cell", "_law_more", "_law_found", "_law_turn"] ["_law_script", "_law_k"] (defScope s__law_pool) := ⟨rfl, rfl, rfl, by decide +kernel, rfl, by decide +kernel, by decide +kernel⟩
abbrev s__law_take : Stmt := topS 28
theorem sc__law_take : FnScope ["_law_pool_here", "_law_many", "_law_digit"] ["_law_pool_here", "_law_many"] (defScope s__law_take) := ⟨rfl, rfl, rfl, by decide +kernel, rfl, by decide +kernel, by decide +kernel⟩
abbrev s__law_root : Stmt := topS 29
theorem sc__law_root : FnScope ["_law_spans", "_law_mark", "_law_turn", "_law_ahead", "_law_span"] ["_law_spans", "_law_mark"] (defScope s__law_root) := ⟨rfl, rfl, rfl, by decide +kernel, rfl, by decide +kernel, by decide +kernel⟩
abbrev s__law_any_spans : Stmt := topS 30
theorem sc__law_any_spans : FnScope ["_law_pool_here", "_law_many", "_law_end", "_law_found", "_law_turn", "_law_goal", "_law_start", "_law_least"] ["_law_pool_here", "_law_many", "_law_end"] (defScope s__law_any_spans) := ⟨rfl, rfl, rfl, by decide +kernel, rfl, by decide +kernel, by decide +kernel⟩
abbrev s__law_refused : Stmt := topS 31
theorem sc__law_refused : FnScope ["_law_book", "_law_refused_here"] ["_law_book"] (defScope s__law_refused) := ⟨rfl, rfl, rfl, by decide +kernel, rfl, by decide +kernel, by decide +kernel⟩
abbrev s__law_right : Stmt := topS 32
theorem sc__law_right : FnScope ["_law_book", "_law_end", "_law_many", "_law_spans", "_law_bounds", "_law_goals", "_law_roots", "_law_due", "_law_told", "_law_span", "_law_mark"] ["_law_book"] (defScope s__law_right) := ⟨rfl, rfl, rfl, by decide +kernel, rfl, by decide +kernel, by decide +kernel⟩
abbrev s_law : Stmt := topS 33
theorem sc_law : FnScope ["_law_script", "_law_k", "_law_pool_here", "_law_many", "_law_end", "_law_spans", "_law_ring", "_law_line"] ["_law_script"] (defScope s_law) := ⟨rfl, rfl, rfl, by decide +kernel, rfl, by decide +kernel, by decide +kernel⟩
/-- what the top has written -/
structure TX (K : PySem.W.Frag) (mg : Str → Option Value) where
  a_is_whole : Addr
  fd_is_whole : FuncData
  m_is_whole : mg "is_whole" = some (.ref a_is_whole)
  F_is_whole : Fun K "is_whole" "is_whole" s_is_whole a_is_whole fd_is_whole
  B_is_whole : Binds K fd_is_whole ["x"] []
  a_is_within : Addr
  fd_is_within : FuncData
  m_is_within : mg "is_within" = some (.ref a_is_within)
  F_is_within : Fun K "is_within" "is_within" s_is_within a_is_within fd_is_within
  B_is_within : Binds K fd_is_within ["x", "least", "most"] []
  a_is_span : Addr
  fd_is_span : FuncData
  m_is_span : mg "is_span" = some (.ref a_is_span)
  F_is_span : Fun K "is_span" "is_span" s_is_span a_is_span fd_is_span
  B_is_span : Binds K fd_is_span ["thing", "end", "many"] []
  a_is_bound : Addr
  fd_is_bound : FuncData
  m_is_bound : mg "is_bound" = some (.ref a_is_bound)
  F_is_bound : Fun K "is_bound" "is_bound" s_is_bound a_is_bound fd_is_bound
  B_is_bound : Binds K fd_is_bound ["thing", "many"] []
  a_spans_by_goal : Addr
  fd_spans_by_goal : FuncData
  m_spans_by_goal : mg "spans_by_goal" = some (.ref a_spans_by_goal)
  F_spans_by_goal : Fun K "spans_by_goal" "spans_by_goal" s_spans_by_goal a_spans_by_goal fd_spans_by_goal
  B_spans_by_goal : Binds K fd_spans_by_goal ["spans"] []
  a_way_from : Addr
  fd_way_from : FuncData
  m_way_from : mg "way_from" = some (.ref a_way_from)
  F_way_from : Fun K "way_from" "way_from" s_way_from a_way_from fd_way_from
  B_way_from : Binds K fd_way_from ["spans", "known", "mark"] []
  a_are_spans : Addr
  fd_are_spans : FuncData
  m_are_spans : mg "are_spans" = some (.ref a_are_spans)
  F_are_spans : Fun K "are_spans" "are_spans" s_are_spans a_are_spans fd_are_spans
  B_are_spans : Binds K fd_are_spans ["thing", "end", "many"] []
  a_is_book : Addr
  fd_is_book : FuncData
  m_is_book : mg "is_book" = some (.ref a_is_book)
  F_is_book : Fun K "is_book" "is_book" s_is_book a_is_book fd_is_book
  B_is_book : Binds K fd_is_book ["thing"] []
  a_check_book : Addr
  fd_check_book : FuncData
  m_check_book : mg "check_book" = some (.ref a_check_book)
  F_check_book : Fun K "check_book" "check_book" s_check_book a_check_book fd_check_book
  B_check_book : Binds K fd_check_book ["book"] []
  a_check_mark : Addr
  fd_check_mark : FuncData
  m_check_mark : mg "check_mark" = some (.ref a_check_mark)
  F_check_mark : Fun K "check_mark" "check_mark" s_check_mark a_check_mark fd_check_mark
  B_check_mark : Binds K fd_check_mark ["book", "mark"] []
  a_froms : Addr
  fd_froms : FuncData
  m_froms : mg "froms" = some (.ref a_froms)
  F_froms : Fun K "froms" "froms" s_froms a_froms fd_froms
  B_froms : Binds K fd_froms ["book"] []
  a_ways_of : Addr
  fd_ways_of : FuncData
  m_ways_of : mg "ways_of" = some (.ref a_ways_of)
  F_ways_of : Fun K "ways_of" "ways_of" s_ways_of a_ways_of fd_ways_of
  B_ways_of : Binds K fd_ways_of ["book"] []
  a_chosen : Addr
  fd_chosen : FuncData
  m_chosen : mg "chosen" = some (.ref a_chosen)
  F_chosen : Fun K "chosen" "chosen" s_chosen a_chosen fd_chosen
  B_chosen : Binds K fd_chosen ["book"] []
  a_root : Addr
  fd_root : FuncData
  m_root : mg "root" = some (.ref a_root)
  F_root : Fun K "root" "root" s_root a_root fd_root
  B_root : Binds K fd_root ["book", "mark"] []
  a_show_book : Addr
  fd_show_book : FuncData
  m_show_book : mg "show_book" = some (.ref a_show_book)
  F_show_book : Fun K "show_book" "show_book" s_show_book a_show_book fd_show_book
  B_show_book : Binds K fd_show_book ["book"] []
  a__law_pool : Addr
  fd__law_pool : FuncData
  m__law_pool : mg "_law_pool" = some (.ref a__law_pool)
  F__law_pool : Fun K "_law_pool" "_law_pool" s__law_pool a__law_pool fd__law_pool
  B__law_pool : Binds K fd__law_pool ["_law_script", "_law_k"] []
  a__law_take : Addr
  fd__law_take : FuncData
  m__law_take : mg "_law_take" = some (.ref a__law_take)
  F__law_take : Fun K "_law_take" "_law_take" s__law_take a__law_take fd__law_take
  B__law_take : Binds K fd__law_take ["_law_pool_here", "_law_many"] []
  a__law_root : Addr
  fd__law_root : FuncData
  m__law_root : mg "_law_root" = some (.ref a__law_root)
  F__law_root : Fun K "_law_root" "_law_root" s__law_root a__law_root fd__law_root
  B__law_root : Binds K fd__law_root ["_law_spans", "_law_mark"] []
  a__law_any_spans : Addr
  fd__law_any_spans : FuncData
  m__law_any_spans : mg "_law_any_spans" = some (.ref a__law_any_spans)
  F__law_any_spans : Fun K "_law_any_spans" "_law_any_spans" s__law_any_spans a__law_any_spans fd__law_any_spans
  B__law_any_spans : Binds K fd__law_any_spans ["_law_pool_here", "_law_many", "_law_end"] []
  a__law_refused : Addr
  fd__law_refused : FuncData
  m__law_refused : mg "_law_refused" = some (.ref a__law_refused)
  F__law_refused : Fun K "_law_refused" "_law_refused" s__law_refused a__law_refused fd__law_refused
  B__law_refused : Binds K fd__law_refused ["_law_book"] []
  a__law_right : Addr
  fd__law_right : FuncData
  m__law_right : mg "_law_right" = some (.ref a__law_right)
  F__law_right : Fun K "_law_right" "_law_right" s__law_right a__law_right fd__law_right
  B__law_right : Binds K fd__law_right ["_law_book"] []
  a_law : Addr
  fd_law : FuncData
  m_law : mg "law" = some (.ref a_law)
  F_law : Fun K "law" "law" s_law a_law fd_law
  B_law : Binds K fd_law ["_law_script"] []
  n_abs : mg "abs" = none
  n_all : mg "all" = none
  n_bool : mg "bool" = none
  n_divmod : mg "divmod" = none
  n_enumerate : mg "enumerate" = none
  n_int : mg "int" = none
  n_isinstance : mg "isinstance" = none
  n_len : mg "len" = none
  n_max : mg "max" = none
  n_min : mg "min" = none
  n_range : mg "range" = none
  n_set : mg "set" = none
  n_sum : mg "sum" = none
  n_tuple : mg "tuple" = none
  t_MOST_BOUNDS : Tok
  g_MOST_BOUNDS : mg "MOST_BOUNDS" = some (.int 30 t_MOST_BOUNDS)
  t_MOST_END : Tok
  g_MOST_END : mg "MOST_END" = some (.int 60 t_MOST_END)
  t_MOST_MARKS : Tok
  g_MOST_MARKS : mg "MOST_MARKS" = some (.int 10 t_MOST_MARKS)
  t_MOST_SPANS : Tok
  g_MOST_SPANS : mg "MOST_SPANS" = some (.int 4 t_MOST_SPANS)
  t_MOST_W : Tok
  g_MOST_W : mg "MOST_W" = some (.int 60 t_MOST_W)
  C_NoBook : Addr
  e_NoBook : ExcT K mg "NoBook" C_NoBook
  C_NoMark : Addr
  e_NoMark : ExcT K mg "NoMark" C_NoMark
  x_NoBook_NoBook : PySem.W.exmOne K (.ref C_NoBook) (.ref C_NoBook) = some true
section
variable {P : Program} {w : World} {K : PySem.W.Frag} {mg : Str → Option Value} {base : Heap}
theorem ok_is_whole (T : TX K mg) : FnOk P w K mg base (L2.CX P w) 1 T.a_is_whole T.fd_is_whole ["x"] (spG K mg 1 F_is_whole) := okG (k := 0) b_is_whole T.F_is_whole sc_is_whole rfl rfl rfl (fun cdv A outer s H E hr =>
  (ss_one (ss_ret (se_and (se_isi (T := "int") (by decide) (se_var (pv 0)) (by rfl) T.n_isinstance (by rfl) T.n_int bt_int) (se_one (se_not (se_isi (T := "bool") (by decide) (se_var (pv 0)) (by rfl) T.n_isinstance (by rfl) T.n_bool bt_bool)))))))
theorem ok_is_within (T : TX K mg) : FnOk P w K mg base (L2.CX P w) 2 T.a_is_within T.fd_is_within ["x", "least", "most"] (spG K mg 3 F_is_within) := okG (k := 1) b_is_within T.F_is_within sc_is_within rfl rfl rfl (fun cdv A outer s H E hr =>
  (ss_one (ss_ret (se_and (se_call (takes_of rfl rfl rfl rfl) (ok_is_whole T) (hr.mono (by decide)) (by rfl) T.m_is_whole T.F_is_whole.kp T.B_is_whole (sa_cons (se_var (pv 0)) sa_nil)) (se_one (se_chain o_le o_le (se_var (pv 1)) (se_var (pv 0)) (se_var (pv 2))))))))
theorem ok_is_span (T : TX K mg) : FnOk P w K mg base (L2.CX P w) 3 T.a_is_span T.fd_is_span ["thing", "end", "many"] (spG K mg 3 F_is_span) := okG (k := 2) b_is_span T.F_is_span sc_is_span rfl rfl rfl (fun cdv A outer s H E hr =>
  (ss_cons (ss_if (PW.pt (sw_or (st_not (st_tru (se_isi (T := "tuple") (by decide) (se_var (pv 0)) (by rfl) T.n_isinstance (by rfl) T.n_tuple bt_tuple))) (sw_or1 (st_cmp (o_ne hr.units) (se_callB b_len (by rfl) T.n_len bt_len (sa_cons (se_var (pv 0)) sa_nil)) se_int (nomark _))))) (ss_one (ss_ret se_bl)) ss_nil) (ss_cons (ss_asg (ps_asg (se_var (pv 0)) (sg_tup (pg_tup rfl (sgs_cons (sg_name (i := 3) sc_is_span.nd rfl (.inl rfl)) (sgs_cons (sg_name (i := 4) sc_is_span.nd rfl (.inl rfl)) (sgs_cons (sg_name (i := 5) sc_is_span.nd rfl (.inl rfl)) (sgs_cons (sg_name (i := 6) sc_is_span.nd rfl (.inl rfl)) sgs_nil)))))))) (ss_cons (ss_if (PW.pt (sw_or (st_not (st_tru (se_call (takes_of rfl rfl rfl rfl) (ok_is_within T) (hr.mono (by decide)) (by rfl) T.m_is_within T.F_is_within.kp T.B_is_within (sa_cons (se_var (pv 3)) (sa_cons se_int (sa_cons (se_bin o_sub (se_var (pv 2)) se_int) sa_nil)))))) (sw_or (st_not (st_tru (se_call (takes_of rfl rfl rfl rfl) (ok_is_within T) (hr.mono (by decide)) (by rfl) T.m_is_within T.F_is_within.kp T.B_is_within (sa_cons (se_var (pv 4)) (sa_cons se_int (sa_cons (se_bin o_sub (se_var (pv 2)) se_int) sa_nil)))))) (sw_or1 (st_cmp (o_eq hr.units) (se_var (pv 3)) (se_var (pv 4)) (nomark _)))))) (ss_one (ss_ret se_bl)) ss_nil) (ss_one (ss_ret (se_and (se_call (takes_of rfl rfl rfl rfl) (ok_is_within T) (hr.mono (by decide)) (by rfl) T.m_is_within T.F_is_within.kp T.B_is_within (sa_cons (se_var (pv 6)) (sa_cons se_int (sa_cons (se_var (pv 1)) sa_nil)))) (se_one (se_call (takes_of rfl rfl rfl rfl) (ok_is_within T) (hr.mono (by decide)) (by rfl) T.m_is_within T.F_is_within.kp T.B_is_within (sa_cons (se_var (pv 5)) (sa_cons se_int (sa_cons (se_var (pv 6)) sa_nil))))))))))))
theorem ok_is_bound (T : TX K mg) : FnOk P w K mg base (L2.CX P w) 3 T.a_is_bound T.fd_is_bound ["thing", "many"] (spG K mg 2 F_is_bound) := okG (k := 2) b_is_bound T.F_is_bound sc_is_bound rfl rfl rfl (fun cdv A outer s H E hr =>
  (ss_cons (ss_if (PW.pt (sw_or (st_not (st_tru (se_isi (T := "tuple") (by decide) (se_var (pv 0)) (by rfl) T.n_isinstance (by rfl) T.n_tuple bt_tuple))) (sw_or1 (st_cmp (o_ne hr.units) (se_callB b_len (by rfl) T.n_len bt_len (sa_cons (se_var (pv 0)) sa_nil)) se_int (nomark _))))) (ss_one (ss_ret se_bl)) ss_nil) (ss_cons (ss_asg (ps_asg (se_var (pv 0)) (sg_tup (pg_tup rfl (sgs_cons (sg_name (i := 2) sc_is_bound.nd rfl (.inl rfl)) (sgs_cons (sg_name (i := 3) sc_is_bound.nd rfl (.inl rfl)) (sgs_cons (sg_name (i := 4) sc_is_bound.nd rfl (.inl rfl)) sgs_nil))))))) (ss_cons (ss_if (PW.pt (sw_or (st_not (st_tru (se_call (takes_of rfl rfl rfl rfl) (ok_is_within T) (hr.mono (by decide)) (by rfl) T.m_is_within T.F_is_within.kp T.B_is_within (sa_cons (se_var (pv 2)) (sa_cons se_int (sa_cons (se_bin o_sub (se_var (pv 1)) se_int) sa_nil)))))) (sw_or (st_not (st_tru (se_call (takes_of rfl rfl rfl rfl) (ok_is_within T) (hr.mono (by decide)) (by rfl) T.m_is_within T.F_is_within.kp T.B_is_within (sa_cons (se_var (pv 3)) (sa_cons se_int (sa_cons (se_bin o_sub (se_var (pv 1)) se_int) sa_nil)))))) (sw_or1 (st_cmp (o_eq hr.units) (se_var (pv 2)) (se_var (pv 3)) (nomark _)))))) (ss_one (ss_ret se_bl)) ss_nil) (ss_one (ss_ret (se_call (takes_of rfl rfl rfl rfl) (ok_is_within T) (hr.mono (by decide)) (by rfl) T.m_is_within T.F_is_within.kp T.B_is_within (sa_cons (se_var (pv 4)) (sa_cons (se_bin o_sub se_int (se_c (pe_glob (v := .int 60) (by rfl) T.g_MOST_W ⟨_, rfl⟩) (fun _ _ => .int _))) (sa_cons (se_c (pe_glob (v := .int 60) (by rfl) T.g_MOST_W ⟨_, rfl⟩) (fun _ _ => .int _)) sa_nil))))))))))
theorem ok_spans_by_goal (T : TX K mg) : FnOk P w K mg base (L2.CX P w) 1 T.a_spans_by_goal T.fd_spans_by_goal ["spans"] (spG K mg 1 F_spans_by_goal) := okG (k := 0) b_spans_by_goal T.F_spans_by_goal sc_spans_by_goal rfl rfl rfl (fun cdv A outer s H E hr =>
  (ss_cons (ss_set (i := 1) sc_spans_by_goal.nd rfl (.inl rfl) se_dicM) (ss_cons (ss_for (passes_of rfl) rfl (si_enum (by rfl) T.n_enumerate (sa_cons (se_var (pv 0)) sa_nil)) (sg_tup (pg_tup rfl (sgs_cons (sg_name (i := 2) sc_spans_by_goal.nd rfl (.inl rfl)) (sgs_cons (sg_name (i := 3) sc_spans_by_goal.nd rfl (.inl rfl)) sgs_nil)))) (ss_one (ss_setD (hu_of hr) (se_var (pv 1)) (se_ix (hu_of hr) (se_var (pv 3)) se_int (fun _ _ => rfl)) (se_var (pv 2))))) (ss_one (ss_ret (se_frz (se_var (pv 1))))))))
theorem ok_way_from (T : TX K mg) : FnOk P w K mg base (L2.CX P w) 1 T.a_way_from T.fd_way_from ["spans", "known", "mark"] (spG K mg 3 F_way_from) := okG (k := 0) b_way_from T.F_way_from sc_way_from rfl rfl rfl (fun cdv A outer s H E hr =>
  (ss_cons (ss_set (i := 3) sc_way_from.nd rfl (.inl rfl) (se_lstM sa_nil)) (ss_cons (ss_while fuelW (passes_of rfl) (PW.pt (sw_and (st_cmp (o_in (hu_of hr)) (se_var (pv 2)) (se_var (pv 1)) (by rfl)) (sw_and1 (st_cmp o_le (se_callB b_len (by rfl) T.n_len bt_len (sa_cons (se_var (pv 3)) sa_nil)) (se_callB b_len (by rfl) T.n_len bt_len (sa_cons (se_var (pv 0)) sa_nil)) (nomark _))))) (ss_cons (ss_expr (se_app (se_var (pv 3)) (se_ix (hu_of hr) (se_var (pv 1)) (se_var (pv 2)) (fun _ _ => rfl)))) (ss_one (ss_set (i := 2) sc_way_from.nd rfl (.inl rfl) (se_ix (hu_of hr) (se_ix (hu_of hr) (se_var (pv 0)) (se_ix (hu_of hr) (se_var (pv 1)) (se_var (pv 2)) (fun _ _ => rfl)) (fun _ _ => rfl)) se_int (fun _ _ => rfl)))))) (ss_one (ss_ret (se_frz (se_var (pv 3))))))))
theorem ok_are_spans (T : TX K mg) : FnOk P w K mg base (L2.CX P w) 4 T.a_are_spans T.fd_are_spans ["thing", "end", "many"] (spG K mg 3 F_are_spans) := okG (k := 3) b_are_spans T.F_are_spans sc_are_spans rfl rfl rfl (fun cdv A outer s H E hr =>
  (ss_cons (ss_if (PW.pt (sw_or (st_not (st_tru (se_isi (T := "tuple") (by decide) (se_var (pv 0)) (by rfl) T.n_isinstance (by rfl) T.n_tuple bt_tuple))) (sw_or1 (st_cmp o_gt (se_callB b_len (by rfl) T.n_len bt_len (sa_cons (se_var (pv 0)) sa_nil)) (se_c (pe_glob (v := .int 4) (by rfl) T.g_MOST_SPANS ⟨_, rfl⟩) (fun _ _ => .int _)) (nomark _))))) (ss_one (ss_ret se_bl)) ss_nil) (ss_cons (ss_if (st_not (st_tru (se_callB (b_all rfl) (by rfl) T.n_all bt_all (sa_cons (se_lc (pe_lc (own := [("span", 4)]) rfl sc_are_spans.nd (si_seq (se_var (pv 0))) (blkOk_by (own := [("span", 4)]) (N := ["thing", "end", "many", "known", "span", "mark"]) (sc := defScope s_are_spans) (by decide +kernel)) (fun _ _ _ _ _ => (sgw_name (i := 4) (by decide) sc_are_spans.nd rfl (by first | exact .inl rfl | exact .inr rfl))) (fun _ _ _ _ _ => sts_nil) (fun _ _ _ _ _ => (se_call takes0 (ok_is_span T) (hr.mono (by decide)) (by rfl) T.m_is_span T.F_is_span.kp T.B_is_span (sa_cons (se_var (pv 4)) (sa_cons (se_var (pv 1)) (sa_cons (se_var (pv 2)) sa_nil))))))) sa_nil)))) (ss_one (ss_ret se_bl)) ss_nil) (ss_cons (ss_set (i := 3) sc_are_spans.nd rfl (.inr rfl) (se_call (takes_of rfl rfl rfl rfl) (ok_spans_by_goal T) (hr.mono (by decide)) (by rfl) T.m_spans_by_goal T.F_spans_by_goal.kp T.B_spans_by_goal (sa_cons (se_var (pv 0)) sa_nil))) (ss_one (ss_ret (se_and (se_cmp (o_eq hr.units) (se_callB b_len (by rfl) T.n_len bt_len (sa_cons (se_var (pv 3)) sa_nil)) (se_callB b_len (by rfl) T.n_len bt_len (sa_cons (se_var (pv 0)) sa_nil)) (nomark _)) (se_one (se_callB (b_all rfl) (by rfl) T.n_all bt_all (sa_cons (se_lcK (pe_lc (own := [("mark", 5)]) rfl sc_are_spans.nd (pi_lk (pv 3)) (blkOk_by (own := [("mark", 5)]) (N := ["thing", "end", "many", "known", "span", "mark"]) (sc := defScope s_are_spans) (by decide +kernel)) (fun _ _ _ _ _ => (sgw_name (i := 5) (by decide) sc_are_spans.nd rfl (by first | exact .inl rfl | exact .inr rfl))) (fun _ _ _ _ _ => sts_nil) (fun _ _ _ _ _ => (se_cmp o_le (se_callB b_len (by rfl) T.n_len bt_len (sa_cons (se_call takes0 (ok_way_from T) (hr.mono (by decide)) (by rfl) T.m_way_from T.F_way_from.kp T.B_way_from (sa_cons (se_var (pv 0)) (sa_cons (se_var (pv 3)) (sa_cons (se_var (pv 5)) sa_nil)))) sa_nil)) (se_callB b_len (by rfl) T.n_len bt_len (sa_cons (se_var (pv 0)) sa_nil)) (nomark _))))) sa_nil))))))))))
theorem ok_is_book (T : TX K mg) : FnOk P w K mg base (L2.CX P w) 5 T.a_is_book T.fd_is_book ["thing"] (spG K mg 1 F_is_book) := okG (k := 4) b_is_book T.F_is_book sc_is_book rfl rfl rfl (fun cdv A outer s H E hr =>
  (ss_cons (ss_if (PW.pt (sw_or (st_not (st_tru (se_isi (T := "tuple") (by decide) (se_var (pv 0)) (by rfl) T.n_isinstance (by rfl) T.n_tuple bt_tuple))) (sw_or1 (st_cmp (o_ne hr.units) (se_callB b_len (by rfl) T.n_len bt_len (sa_cons (se_var (pv 0)) sa_nil)) se_int (nomark _))))) (ss_one (ss_ret se_bl)) ss_nil) (ss_cons (ss_asg (ps_asg (se_var (pv 0)) (sg_tup (pg_tup rfl (sgs_cons (sg_name (i := 1) sc_is_book.nd rfl (.inl rfl)) (sgs_cons (sg_name (i := 2) sc_is_book.nd rfl (.inr rfl)) (sgs_cons (sg_name (i := 3) sc_is_book.nd rfl (.inl rfl)) (sgs_cons (sg_name (i := 4) sc_is_book.nd rfl (.inl rfl)) sgs_nil)))))))) (ss_cons (ss_if (PW.pt (sw_or (st_not (st_tru (se_call (takes_of rfl rfl rfl rfl) (ok_is_within T) (hr.mono (by decide)) (by rfl) T.m_is_within T.F_is_within.kp T.B_is_within (sa_cons (se_var (pv 1)) (sa_cons se_int (sa_cons (se_c (pe_glob (v := .int 60) (by rfl) T.g_MOST_END ⟨_, rfl⟩) (fun _ _ => .int _)) sa_nil)))))) (sw_or (st_not (st_tru (se_call (takes_of rfl rfl rfl rfl) (ok_is_within T) (hr.mono (by decide)) (by rfl) T.m_is_within T.F_is_within.kp T.B_is_within (sa_cons (se_var (pv 2)) (sa_cons se_int (sa_cons (se_c (pe_glob (v := .int 10) (by rfl) T.g_MOST_MARKS ⟨_, rfl⟩) (fun _ _ => .int _)) sa_nil)))))) (sw_or1 (st_not (st_tru (se_call (takes_of rfl rfl rfl rfl) (ok_are_spans T) (hr.mono (by decide)) (by rfl) T.m_are_spans T.F_are_spans.kp T.B_are_spans (sa_cons (se_var (pv 3)) (sa_cons (se_var (pv 1)) (sa_cons (se_var (pv 2)) sa_nil)))))))))) (ss_one (ss_ret se_bl)) ss_nil) (ss_cons (ss_if (PW.pt (sw_or (st_not (st_tru (se_isi (T := "tuple") (by decide) (se_var (pv 4)) (by rfl) T.n_isinstance (by rfl) T.n_tuple bt_tuple))) (sw_or1 (st_cmp o_gt (se_callB b_len (by rfl) T.n_len bt_len (sa_cons (se_var (pv 4)) sa_nil)) (se_c (pe_glob (v := .int 30) (by rfl) T.g_MOST_BOUNDS ⟨_, rfl⟩) (fun _ _ => .int _)) (nomark _))))) (ss_one (ss_ret se_bl)) ss_nil) (ss_one (ss_ret (se_callB (b_all rfl) (by rfl) T.n_all bt_all (sa_cons (se_lc (pe_lc (own := [("bound", 5)]) rfl sc_is_book.nd (si_seq (se_var (pv 4))) (blkOk_by (own := [("bound", 5)]) (N := ["thing", "end", "many", "spans", "bounds", "bound"]) (sc := defScope s_is_book) (by decide +kernel)) (fun _ _ _ _ _ => (sgw_name (i := 5) (by decide) sc_is_book.nd rfl (by first | exact .inl rfl | exact .inr rfl))) (fun _ _ _ _ _ => sts_nil) (fun _ _ _ _ _ => (se_call takes0 (ok_is_bound T) (hr.mono (by decide)) (by rfl) T.m_is_bound T.F_is_bound.kp T.B_is_bound (sa_cons (se_var (pv 5)) (sa_cons (se_var (pv 2)) sa_nil)))))) sa_nil)))))))))
theorem ok_check_book (T : TX K mg) : FnOk P w K mg base (L2.CX P w) 6 T.a_check_book T.fd_check_book ["book"] (spG K mg 1 F_check_book) := okG (k := 5) b_check_book T.F_check_book sc_check_book rfl rfl rfl (fun cdv A outer s H E hr =>
  (ss_one (ss_if (st_not (st_tru (se_call (takes_of rfl rfl rfl rfl) (ok_is_book T) (hr.mono (by decide)) (by rfl) T.m_is_book T.F_is_book.kp T.B_is_book (sa_cons (se_var (pv 0)) sa_nil)))) (ss_one (ss_raiseT T.e_NoBook rfl (takes_of rfl rfl rfl rfl) (by rfl))) ss_nil)))
theorem ok_check_mark (T : TX K mg) : FnOk P w K mg base (L2.CX P w) 3 T.a_check_mark T.fd_check_mark ["book", "mark"] (spG K mg 2 F_check_mark) := okG (k := 2) b_check_mark T.F_check_mark sc_check_mark rfl rfl rfl (fun cdv A outer s H E hr =>
  (ss_one (ss_if (st_not (st_tru (se_call (takes_of rfl rfl rfl rfl) (ok_is_within T) (hr.mono (by decide)) (by rfl) T.m_is_within T.F_is_within.kp T.B_is_within (sa_cons (se_var (pv 1)) (sa_cons se_int (sa_cons (se_bin o_sub (se_ix (hu_of hr) (se_var (pv 0)) se_int (fun _ _ => rfl)) se_int) sa_nil)))))) (ss_one (ss_raiseT T.e_NoMark rfl (takes_of rfl rfl rfl rfl) (by rfl))) ss_nil)))
theorem ok_froms (T : TX K mg) : FnOk P w K mg base (L2.CX P w) 2 T.a_froms T.fd_froms ["book"] (spG K mg 1 F_froms) := okG (k := 1) b_froms T.F_froms sc_froms rfl rfl rfl (fun cdv A outer s H E hr =>
  (ss_one (ss_ret (se_call (takes_of rfl rfl rfl rfl) (ok_spans_by_goal T) (hr.mono (by decide)) (by rfl) T.m_spans_by_goal T.F_spans_by_goal.kp T.B_spans_by_goal (sa_cons (se_ix (hu_of hr) (se_var (pv 0)) se_int (fun _ _ => rfl)) sa_nil)))))
theorem ok_ways_of (T : TX K mg) : FnOk P w K mg base (L2.CX P w) 3 T.a_ways_of T.fd_ways_of ["book"] (spG K mg 1 F_ways_of) := okG (k := 2) b_ways_of T.F_ways_of sc_ways_of rfl rfl rfl (fun cdv A outer s H E hr =>
  (ss_cons (ss_set (i := 1) sc_ways_of.nd rfl (.inr rfl) (se_call (takes_of rfl rfl rfl rfl) (ok_froms T) (hr.mono (by decide)) (by rfl) T.m_froms T.F_froms.kp T.B_froms (sa_cons (se_var (pv 0)) sa_nil))) (ss_one (ss_ret (se_lc (pe_lc (own := [("mark", 2)]) rfl sc_ways_of.nd (si_range1 (by rfl) T.n_range (sa_cons (se_ix (hu_of hr) (se_var (pv 0)) se_int (fun _ _ => rfl)) sa_nil)) (blkOk_by (own := [("mark", 2)]) (N := ["book", "known", "mark"]) (sc := defScope s_ways_of) (by decide +kernel)) (fun _ _ _ _ _ => (sgw_name (i := 2) (by decide) sc_ways_of.nd rfl (by first | exact .inl rfl | exact .inr rfl))) (fun _ _ _ _ _ => sts_nil) (fun _ _ _ _ _ => (se_call takes0 (ok_way_from T) (hr.mono (by decide)) (by rfl) T.m_way_from T.F_way_from.kp T.B_way_from (sa_cons (se_ix (hu_of hr) (se_var (pv 0)) se_int (fun _ _ => rfl)) (sa_cons (se_var (pv 1)) (sa_cons (se_var (pv 2)) sa_nil)))))))))))
theorem ok_chosen (T : TX K mg) : FnOk P w K mg base (L2.CX P w) 7 T.a_chosen T.fd_chosen ["book"] (spG K mg 1 F_chosen) := okG (k := 6) b_chosen T.F_chosen sc_chosen rfl rfl rfl (fun cdv A outer s H E hr =>
  (ss_cons (ss_expr (se_call (takes_of rfl rfl rfl rfl) (ok_check_book T) (hr.mono (by decide)) (by rfl) T.m_check_book T.F_check_book.kp T.B_check_book (sa_cons (se_var (pv 0)) sa_nil))) (ss_cons (ss_set (i := 1) sc_chosen.nd rfl (.inr rfl) (se_call (takes_of rfl rfl rfl rfl) (ok_froms T) (hr.mono (by decide)) (by rfl) T.m_froms T.F_froms.kp T.B_froms (sa_cons (se_var (pv 0)) sa_nil))) (ss_one (ss_ret (se_callTy b_tuple (by rfl) T.n_tuple bt_tuple (sa_cons (se_lc (pe_lc (own := [("mark", 2)]) rfl sc_chosen.nd (si_range2 (by rfl) T.n_range (sa_cons se_int (sa_cons (se_ix (hu_of hr) (se_var (pv 0)) se_int (fun _ _ => rfl)) sa_nil))) (blkOk_by (own := [("mark", 2)]) (N := ["book", "known", "mark"]) (sc := defScope s_chosen) (by decide +kernel)) (fun _ _ _ _ _ => (sgw_name (i := 2) (by decide) sc_chosen.nd rfl (by first | exact .inl rfl | exact .inr rfl))) (fun _ _ _ _ _ => (sts_one (st_cmp (o_nin (hu_of hr)) (se_var (pv 2)) (se_var (pv 1)) (by rfl)))) (fun _ _ _ _ _ => (se_var (pv 2))))) sa_nil)))))))
theorem ok_root (T : TX K mg) : FnOk P w K mg base (L2.CX P w) 7 T.a_root T.fd_root ["book", "mark"] (spG K mg 2 F_root) := okG (k := 6) b_root T.F_root sc_root rfl rfl rfl (fun cdv A outer s H E hr =>
  (ss_cons (ss_expr (se_call (takes_of rfl rfl rfl rfl) (ok_check_book T) (hr.mono (by decide)) (by rfl) T.m_check_book T.F_check_book.kp T.B_check_book (sa_cons (se_var (pv 0)) sa_nil))) (ss_cons (ss_expr (se_call (takes_of rfl rfl rfl rfl) (ok_check_mark T) (hr.mono (by decide)) (by rfl) T.m_check_mark T.F_check_mark.kp T.B_check_mark (sa_cons (se_var (pv 0)) (sa_cons (se_var (pv 1)) sa_nil)))) (ss_cons (ss_for (passes_of rfl) rfl (si_seq (se_ix (hu_of hr) (se_call (takes_of rfl rfl rfl rfl) (ok_ways_of T) (hr.mono (by decide)) (by rfl) T.m_ways_of T.F_ways_of.kp T.B_ways_of (sa_cons (se_var (pv 0)) sa_nil)) (se_var (pv 1)) (fun _ _ => rfl))) (sg_name (i := 2) sc_root.nd rfl (.inl rfl)) (ss_one (ss_set (i := 1) sc_root.nd rfl (.inl rfl) (se_ix (hu_of hr) (se_ix (hu_of hr) (se_ix (hu_of hr) (se_var (pv 0)) se_int (fun _ _ => rfl)) (se_var (pv 2)) (fun _ _ => rfl)) se_int (fun _ _ => rfl))))) (ss_one (ss_ret (se_var (pv 1))))))))
theorem ok_show_book (T : TX K mg) : FnOk P w K mg base (L2.CX P w) 7 T.a_show_book T.fd_show_book ["book"] (spG K mg 1 F_show_book) := okG (k := 6) b_show_book T.F_show_book sc_show_book rfl rfl rfl (fun cdv A outer s H E hr =>
  (ss_cons (ss_expr (se_call (takes_of rfl rfl rfl rfl) (ok_check_book T) (hr.mono (by decide)) (by rfl) T.m_check_book T.F_check_book.kp T.B_check_book (sa_cons (se_var (pv 0)) sa_nil))) ss_never))
theorem ok__law_pool (T : TX K mg) : FnOk P w K mg base (L2.CX P w) 1 T.a__law_pool T.fd__law_pool ["_law_script", "_law_k"] (spG K mg 2 F__law_pool) := okG (k := 0) b__law_pool T.F__law_pool sc__law_pool rfl rfl rfl (fun cdv A outer s H E hr =>
  (ss_cons (ss_set (i := 2) sc__law_pool.nd rfl (.inl rfl) (se_callB (b_sum rfl) (by rfl) T.n_sum bt_sum (sa_cons (se_sl (se_var (pv 0)) (so_some (se_var (pv 1))) (so_some (se_bin o_add (se_var (pv 1)) se_int))) sa_nil))) (ss_cons (ss_if (PW.pt (sw_or (st_cmp o_lt (se_var (pv 2)) se_int (nomark _)) (sw_or1 (st_cmp o_ge (se_var (pv 2)) (se_bin o_pow se_int se_int) (nomark _))))) (ss_one (ss_ret (se_lstM (sa_cons (se_bin o_mod (se_callB b_abs (by rfl) T.n_abs bt_abs (sa_cons (se_var (pv 2)) sa_nil)) (se_bin o_mul (se_bin o_mul (se_bin o_mul (se_bin o_mul (se_bin o_mul (se_bin o_pow se_int se_int) (se_bin o_pow se_int se_int)) (se_bin o_pow se_int se_int)) (se_bin o_pow se_int se_int)) (se_bin o_pow se_int se_int)) (se_bin o_pow se_int se_int))) sa_nil)))) ss_nil) (ss_cons (ss_set (i := 3) sc__law_pool.nd rfl (.inl rfl) (se_bin o_add (se_bin o_add (se_bin o_mul (se_var (pv 2)) se_int) (se_bin o_mul (se_bin o_mul se_int (se_var (pv 1))) (se_var (pv 1)))) se_int)) (ss_cons (ss_set (i := 4) sc__law_pool.nd rfl (.inl rfl) se_int) (ss_cons (ss_for (passes_of rfl) rfl (si_range1 (by rfl) T.n_range (sa_cons se_int sa_nil)) (sg_name (i := 5) sc__law_pool.nd rfl (.inl rfl)) (ss_cons (ss_set (i := 3) sc__law_pool.nd rfl (.inl rfl) (se_bin o_mod (se_bin o_add (se_bin o_add (se_bin o_mul (se_bin o_mod (se_var (pv 3)) se_int) se_int) (se_bin o_mul se_int (se_var (pv 5)))) se_int) se_int)) (ss_one (ss_set (i := 4) sc__law_pool.nd rfl (.inl rfl) (se_bin o_add (se_bin o_mul (se_var (pv 4)) (se_bin o_pow se_int se_int)) (se_bin o_mod (se_bin o_mul (se_var (pv 3)) (se_bin o_add (se_bin o_mod (se_var (pv 3)) se_int) se_int)) se_int)))))) (ss_one (ss_ret (se_lstM (sa_cons (se_var (pv 4)) sa_nil))))))))))
theorem ok__law_take (T : TX K mg) : FnOk P w K mg base (L2.CX P w) 1 T.a__law_take T.fd__law_take ["_law_pool_here", "_law_many"] (spG K mg 2 F__law_take) := okG (k := 0) b__law_take T.F__law_take sc__law_take rfl rfl rfl (fun cdv A outer s H E hr =>
  (ss_cons (ss_asg (ps_asg (se_callB b_divmod (by rfl) T.n_divmod bt_divmod (sa_cons (se_ix (hu_of hr) (se_var (pv 0)) se_int (fun _ _ => rfl)) (sa_cons (se_var (pv 1)) sa_nil))) (sg_tup (pg_tup rfl (sgs_cons (sg_sub (W := W0) (se_var (pv 0)) se_int setL_ok (pg_sub (se_var (pv 0)) se_int set_list)) (sgs_cons (sg_name (i := 2) sc__law_take.nd rfl (.inl rfl)) sgs_nil)))))) (ss_one (ss_ret (se_var (pv 2))))))
theorem ok__law_root (T : TX K mg) : FnOk P w K mg base (L2.CX P w) 1 T.a__law_root T.fd__law_root ["_law_spans", "_law_mark"] (spG K mg 2 F__law_root) := okG (k := 0) b__law_root T.F__law_root sc__law_root rfl rfl rfl (fun cdv A outer s H E hr =>
  (ss_cons (ss_for (passes_of rfl) rfl (si_range1 (by rfl) T.n_range (sa_cons (se_bin o_add (se_callB b_len (by rfl) T.n_len bt_len (sa_cons (se_var (pv 0)) sa_nil)) se_int) sa_nil)) (sg_name (i := 2) sc__law_root.nd rfl (.inl rfl)) (ss_cons (ss_setLc (ps_setLc (i := 3) (own := [("_law_span", 4)]) rfl sc__law_root.nd rfl rfl (sw_true rfl rfl rfl (by decide +kernel)) (si_seq (se_var (pv 0))) (blkOk_by (own := [("_law_span", 4)]) (N := ["_law_spans", "_law_mark", "_law_turn", "_law_ahead", "_law_span"]) (sc := defScope s__law_root) (by decide +kernel)) (fun _ _ _ _ _ => (sgw_name (i := 4) (by decide) sc__law_root.nd rfl (by first | exact .inl rfl | exact .inr rfl))) (fun _ _ _ _ _ => (sts_one (st_cmp (o_eq hr.units) (se_ix (hu_of hr) (se_var (pv 4)) se_int (fun _ _ => rfl)) (se_var (pv 1)) (nomark _)))) (fun _ _ _ _ _ => (se_ix (hu_of hr) (se_var (pv 4)) se_int (fun _ _ => rfl))))) (ss_cons (ss_if (st_cmp (o_eq hr.units) (se_var (pv 3)) (se_lst sa_nil) (nomark _)) (ss_one (ss_ret (se_var (pv 1)))) ss_nil) (ss_one (ss_set (i := 1) sc__law_root.nd rfl (.inr rfl) (se_ix (hu_of hr) (se_var (pv 3)) se_int (fun _ _ => rfl))))))) (ss_one (ss_ret se_non))))
theorem ok__law_any_spans (T : TX K mg) : FnOk P w K mg base (L2.CX P w) 2 T.a__law_any_spans T.fd__law_any_spans ["_law_pool_here", "_law_many", "_law_end"] (spG K mg 3 F__law_any_spans) := okG (k := 1) b__law_any_spans T.F__law_any_spans sc__law_any_spans rfl rfl rfl (fun cdv A outer s H E hr =>
  (ss_cons (ss_set (i := 3) sc__law_any_spans.nd rfl (.inl rfl) (se_lstM sa_nil)) (ss_cons (ss_for (passes_of rfl) rfl (si_range1 (by rfl) T.n_range (sa_cons (se_bin o_add se_int (se_call (takes_of rfl rfl rfl rfl) (ok__law_take T) (hr.mono (by decide)) (by rfl) T.m__law_take T.F__law_take.kp T.B__law_take (sa_cons (se_var (pv 0)) (sa_cons se_int sa_nil)))) sa_nil)) (sg_name (i := 4) sc__law_any_spans.nd rfl (.inl rfl)) (ss_cons (ss_set (i := 5) sc__law_any_spans.nd rfl (.inl rfl) (se_bin o_add se_int (se_call (takes_of rfl rfl rfl rfl) (ok__law_take T) (hr.mono (by decide)) (by rfl) T.m__law_take T.F__law_take.kp T.B__law_take (sa_cons (se_var (pv 0)) (sa_cons (se_bin o_sub (se_var (pv 1)) se_int) sa_nil))))) (ss_cons (ss_set (i := 6) sc__law_any_spans.nd rfl (.inl rfl) (se_bin o_mod (se_bin o_add (se_bin o_add (se_var (pv 5)) se_int) (se_call (takes_of rfl rfl rfl rfl) (ok__law_take T) (hr.mono (by decide)) (by rfl) T.m__law_take T.F__law_take.kp T.B__law_take (sa_cons (se_var (pv 0)) (sa_cons (se_bin o_sub (se_var (pv 1)) se_int) sa_nil)))) (se_var (pv 1)))) (ss_cons (ss_set (i := 7) sc__law_any_spans.nd rfl (.inl rfl) (se_bin o_add se_int (se_call (takes_of rfl rfl rfl rfl) (ok__law_take T) (hr.mono (by decide)) (by rfl) T.m__law_take T.F__law_take.kp T.B__law_take (sa_cons (se_var (pv 0)) (sa_cons (se_var (pv 2)) sa_nil))))) (ss_one (ss_expr (se_app (se_var (pv 3)) (se_tup (sa_cons (se_var (pv 6)) (sa_cons (se_var (pv 5)) (sa_cons (se_var (pv 7)) (sa_cons (se_bin o_add (se_var (pv 7)) (se_call (takes_of rfl rfl rfl rfl) (ok__law_take T) (hr.mono (by decide)) (by rfl) T.m__law_take T.F__law_take.kp T.B__law_take (sa_cons (se_var (pv 0)) (sa_cons (se_bin o_sub (se_bin o_add (se_var (pv 2)) se_int) (se_var (pv 7))) sa_nil)))) sa_nil)))))))))))) (ss_one (ss_ret (se_callTy b_tuple (by rfl) T.n_tuple bt_tuple (sa_cons (se_var (pv 3)) sa_nil)))))))
theorem ok__law_refused (T : TX K mg) : FnOk P w K mg base (L2.CX P w) 8 T.a__law_refused T.fd__law_refused ["_law_book"] (spG K mg 1 F__law_refused) := okG (k := 7) b__law_refused T.F__law_refused sc__law_refused rfl rfl rfl (fun cdv A outer s H E hr =>
  (ss_cons (ss_set (i := 1) sc__law_refused.nd rfl (.inl rfl) se_int) (ss_cons (ss_try rfl rfl ⟨rfl, by decide, .inl T.e_NoBook.g⟩ (takes_of rfl rfl rfl rfl) (mTab_ok (tab_one T.e_NoBook.g T.x_NoBook_NoBook tab_nil)) (fun W pn xe tk1 ps1 => (ss_one (ss_expr (se_call tk1 (ok_chosen T) (hr.mono (by decide)) (by rfl) T.m_chosen T.F_chosen.kp T.B_chosen (sa_cons (se_var (pv 0)) sa_nil))))) (fun a oe pn => (ss_one (ss_set (i := 1) sc__law_refused.nd rfl (.inl rfl) (se_bin o_add (se_var (pv 1)) se_int))))) (ss_cons (ss_try rfl rfl ⟨rfl, by decide, .inl T.e_NoBook.g⟩ (takes_of rfl rfl rfl rfl) (mTab_ok (tab_one T.e_NoBook.g T.x_NoBook_NoBook tab_nil)) (fun W pn xe tk1 ps1 => (ss_one (ss_expr (se_call tk1 (ok_show_book T) (hr.mono (by decide)) (by rfl) T.m_show_book T.F_show_book.kp T.B_show_book (sa_cons (se_var (pv 0)) sa_nil))))) (fun a oe pn => (ss_one (ss_set (i := 1) sc__law_refused.nd rfl (.inl rfl) (se_bin o_add (se_var (pv 1)) se_int))))) (ss_one (ss_ret (se_cmp (o_eq hr.units) (se_var (pv 1)) se_int (nomark _))))))))
theorem ok__law_right (T : TX K mg) : FnOk P w K mg base (L2.CX P w) 9 T.a__law_right T.fd__law_right ["_law_book"] (spG K mg 1 F__law_right) := okG (k := 8) b__law_right T.F__law_right sc__law_right rfl rfl rfl (fun cdv A outer s H E hr =>
  (ss_cons (ss_asg (ps_asg (se_var (pv 0)) (sg_tup (pg_tup rfl (sgs_cons (sg_name (i := 1) sc__law_right.nd rfl (.inl rfl)) (sgs_cons (sg_name (i := 2) sc__law_right.nd rfl (.inl rfl)) (sgs_cons (sg_name (i := 3) sc__law_right.nd rfl (.inr rfl)) (sgs_cons (sg_name (i := 4) sc__law_right.nd rfl (.inl rfl)) sgs_nil)))))))) (ss_cons (ss_set (i := 5) sc__law_right.nd rfl (.inr rfl) (se_lc (pe_lc (own := [("_law_span", 9)]) rfl sc__law_right.nd (si_seq (se_var (pv 3))) (blkOk_by (own := [("_law_span", 9)]) (N := ["_law_book", "_law_end", "_law_many", "_law_spans", "_law_bounds", "_law_goals", "_law_roots", "_law_due", "_law_told", "_law_span", "_law_mark"]) (sc := defScope s__law_right) (by decide +kernel)) (fun _ _ _ _ _ => (sgw_name (i := 9) (by decide) sc__law_right.nd rfl (by first | exact .inl rfl | exact .inr rfl))) (fun _ _ _ _ _ => sts_nil) (fun _ _ _ _ _ => (se_ix (hu_of hr) (se_var (pv 9)) se_int (fun _ _ => rfl)))))) (ss_cons (ss_setLc (ps_setLc (i := 6) (own := [("_law_mark", 10)]) rfl sc__law_right.nd rfl rfl (sw_true rfl rfl rfl (by decide +kernel)) (si_range1 (by rfl) T.n_range (sa_cons (se_var (pv 2)) sa_nil)) (blkOk_by (own := [("_law_mark", 10)]) (N := ["_law_book", "_law_end", "_law_many", "_law_spans", "_law_bounds", "_law_goals", "_law_roots", "_law_due", "_law_told", "_law_span", "_law_mark"]) (sc := defScope s__law_right) (by decide +kernel)) (fun _ _ _ _ _ => (sgw_name (i := 10) (by decide) sc__law_right.nd rfl (by first | exact .inl rfl | exact .inr rfl))) (fun _ _ _ _ _ => sts_nil) (fun _ _ _ _ _ => (se_call takes0 (ok__law_root T) (hr.mono (by decide)) (by rfl) T.m__law_root T.F__law_root.kp T.B__law_root (sa_cons (se_var (pv 3)) (sa_cons (se_var (pv 10)) sa_nil)))))) (ss_cons (ss_set (i := 7) sc__law_right.nd rfl (.inl rfl) (se_and (se_cmp (o_eq hr.units) (se_lenSet (by rfl) T.n_len (by rfl) T.n_set (se_var (pv 5))) (se_callB b_len (by rfl) T.n_len bt_len (sa_cons (se_var (pv 5)) sa_nil)) (nomark _)) (se_one (se_cmp (o_nin (hu_of hr)) se_non (se_var (pv 6)) (by rfl))))) (ss_cons (ss_set (i := 8) sc__law_right.nd rfl (.inl rfl) (se_call (takes_of rfl rfl rfl rfl) (ok_is_book T) (hr.mono (by decide)) (by rfl) T.m_is_book T.F_is_book.kp T.B_is_book (sa_cons (se_var (pv 0)) sa_nil))) (ss_cons (ss_if (PW.pt (sw_or (st_not (st_tru (se_isi (T := "bool") (by decide) (se_var (pv 8)) (by rfl) T.n_isinstance (by rfl) T.n_bool bt_bool))) (sw_or1 (st_cmp (o_ne hr.units) (se_var (pv 8)) (se_var (pv 7)) (nomark _))))) (ss_one (ss_ret se_bl)) ss_nil) (ss_cons (ss_if (st_not (st_tru (se_var (pv 7)))) (ss_one (ss_ret (se_call (takes_of rfl rfl rfl rfl) (ok__law_refused T) (hr.mono (by decide)) (by rfl) T.m__law_refused T.F__law_refused.kp T.B__law_refused (sa_cons (se_var (pv 0)) sa_nil)))) ss_nil) (ss_cons (ss_if (st_cmp (o_ne hr.units) (se_call (takes_of rfl rfl rfl rfl) (ok_chosen T) (hr.mono (by decide)) (by rfl) T.m_chosen T.F_chosen.kp T.B_chosen (sa_cons (se_var (pv 0)) sa_nil)) (se_callTy b_tuple (by rfl) T.n_tuple bt_tuple (sa_cons (se_lc (pe_lc (own := [("_law_mark", 10)]) rfl sc__law_right.nd (si_range2 (by rfl) T.n_range (sa_cons se_int (sa_cons (se_var (pv 2)) sa_nil))) (blkOk_by (own := [("_law_mark", 10)]) (N := ["_law_book", "_law_end", "_law_many", "_law_spans", "_law_bounds", "_law_goals", "_law_roots", "_law_due", "_law_told", "_law_span", "_law_mark"]) (sc := defScope s__law_right) (by decide +kernel)) (fun _ _ _ _ _ => (sgw_name (i := 10) (by decide) sc__law_right.nd rfl (by first | exact .inl rfl | exact .inr rfl))) (fun _ _ _ _ _ => (sts_one (st_cmp (o_nin (hu_of hr)) (se_var (pv 10)) (se_var (pv 5)) (by rfl)))) (fun _ _ _ _ _ => (se_var (pv 10))))) sa_nil)) (nomark _)) (ss_one (ss_ret se_bl)) ss_nil) (ss_one (ss_ret (se_cmp (o_eq hr.units) (se_lc (pe_lc (own := [("_law_mark", 10)]) rfl sc__law_right.nd (si_range1 (by rfl) T.n_range (sa_cons (se_var (pv 2)) sa_nil)) (blkOk_by (own := [("_law_mark", 10)]) (N := ["_law_book", "_law_end", "_law_many", "_law_spans", "_law_bounds", "_law_goals", "_law_roots", "_law_due", "_law_told", "_law_span", "_law_mark"]) (sc := defScope s__law_right) (by decide +kernel)) (fun _ _ _ _ _ => (sgw_name (i := 10) (by decide) sc__law_right.nd rfl (by first | exact .inl rfl | exact .inr rfl))) (fun _ _ _ _ _ => sts_nil) (fun _ _ _ _ _ => (se_call takes0 (ok_root T) (hr.mono (by decide)) (by rfl) T.m_root T.F_root.kp T.B_root (sa_cons (se_var (pv 0)) (sa_cons (se_var (pv 10)) sa_nil)))))) (se_var (pv 6)) (nomark _)))))))))))))
theorem ok_law (T : TX K mg) : FnOk P w K mg base (L2.CX P w) 10 T.a_law T.fd_law ["_law_script"] (spG K mg 1 F_law) := okG (k := 9) b_law T.F_law sc_law rfl rfl rfl (fun cdv A outer s H E hr =>
  (ss_cons (ss_for (passes_of rfl) rfl (si_range1 (by rfl) T.n_range (sa_cons (se_callB (b_max2 rfl) (by rfl) T.n_max bt_max (sa_cons se_int (sa_cons (se_callB (b_min2 rfl) (by rfl) T.n_min bt_min (sa_cons (se_callB b_len (by rfl) T.n_len bt_len (sa_cons (se_var (pv 0)) sa_nil)) (sa_cons se_int sa_nil))) sa_nil))) sa_nil)) (sg_name (i := 1) sc_law.nd rfl (.inl rfl)) (ss_scope (ss_cons (ss_set (i := 2) sc_law.nd rfl (.inl rfl) (se_call (takes_of rfl rfl rfl rfl) (ok__law_pool T) (hr.mono (by decide)) (by rfl) T.m__law_pool T.F__law_pool.kp T.B__law_pool (sa_cons (se_var (pv 0)) (sa_cons (se_var (pv 1)) sa_nil)))) (ss_cons (ss_set (i := 3) sc_law.nd rfl (.inl rfl) (se_ix (hu_of hr) (se_lst (sa_cons (se_bin o_add se_int (se_call (takes_of rfl rfl rfl rfl) (ok__law_take T) (hr.mono (by decide)) (by rfl) T.m__law_take T.F__law_take.kp T.B__law_take (sa_cons (se_var (pv 2)) (sa_cons se_int sa_nil)))) (sa_cons se_int sa_nil))) (se_callTy b_int (by rfl) T.n_int bt_int (sa_cons (se_cmp (o_eq hr.units) (se_call (takes_of rfl rfl rfl rfl) (ok__law_take T) (hr.mono (by decide)) (by rfl) T.m__law_take T.F__law_take.kp T.B__law_take (sa_cons (se_var (pv 2)) (sa_cons se_int sa_nil))) se_int (nomark _)) sa_nil)) (fun _ _ => rfl))) (ss_cons (ss_set (i := 4) sc_law.nd rfl (.inl rfl) (se_bin o_add se_int (se_call (takes_of rfl rfl rfl rfl) (ok__law_take T) (hr.mono (by decide)) (by rfl) T.m__law_take T.F__law_take.kp T.B__law_take (sa_cons (se_var (pv 2)) (sa_cons se_int sa_nil))))) (ss_cons (ss_set (i := 5) sc_law.nd rfl (.inl rfl) (se_call (takes_of rfl rfl rfl rfl) (ok__law_any_spans T) (hr.mono (by decide)) (by rfl) T.m__law_any_spans T.F__law_any_spans.kp T.B__law_any_spans (sa_cons (se_var (pv 2)) (sa_cons (se_var (pv 3)) (sa_cons (se_var (pv 4)) sa_nil))))) (ss_one (ss_if (PW.pt (sw_or (st_not (st_tru (se_call (takes_of rfl rfl rfl rfl) (ok__law_right T) (hr.mono (by decide)) (by rfl) T.m__law_right T.F__law_right.kp T.B__law_right (sa_cons (se_tup (sa_cons (se_var (pv 4)) (sa_cons (se_var (pv 3)) (sa_cons (se_var (pv 5)) (sa_cons (se_tup sa_nil) sa_nil))))) sa_nil)))) (sw_or1 (st_not (st_tru (se_call (takes_of rfl rfl rfl rfl) (ok__law_right T) (hr.mono (by decide)) (by rfl) T.m__law_right T.F__law_right.kp T.B__law_right (sa_cons (se_tup (sa_cons (se_var (pv 4)) (sa_cons (se_var (pv 3)) (sa_cons (se_rev (se_var (pv 5))) (sa_cons (se_tup (sa_cons (se_tup (sa_cons se_int (sa_cons (se_bin o_sub (se_var (pv 3)) se_int) (sa_cons (se_var (pv 4)) sa_nil)))) sa_nil)) sa_nil))))) sa_nil))))))) (ss_one (ss_ret se_bl)) ss_nil)))))))) (ss_cons (ss_set (i := 6) sc_law.nd rfl (.inl rfl) (se_tup (sa_cons (se_tup (sa_cons se_int (sa_cons se_int (sa_cons se_int (sa_cons se_int sa_nil))))) (sa_cons (se_tup (sa_cons se_int (sa_cons se_int (sa_cons se_int (sa_cons se_int sa_nil))))) (sa_cons (se_tup (sa_cons se_int (sa_cons se_int (sa_cons se_int (sa_cons se_int sa_nil))))) (sa_cons (se_tup (sa_cons se_int (sa_cons se_int (sa_cons se_int (sa_cons se_int sa_nil))))) sa_nil)))))) (ss_cons (ss_set (i := 7) sc_law.nd rfl (.inl rfl) (se_tup (sa_cons (se_tup (sa_cons se_int (sa_cons se_int (sa_cons se_int (sa_cons se_int sa_nil))))) (sa_cons (se_tup (sa_cons se_int (sa_cons se_int (sa_cons se_int (sa_cons se_int sa_nil))))) (sa_cons (se_tup (sa_cons se_int (sa_cons se_int (sa_cons se_int (sa_cons se_int sa_nil))))) (sa_cons (se_tup (sa_cons se_int (sa_cons se_int (sa_cons se_int (sa_cons se_int sa_nil))))) sa_nil)))))) (ss_one (ss_ret (se_callB (b_all rfl) (by rfl) T.n_all bt_all (sa_cons (se_lc (pe_lc (own := [("_law_spans", 5)]) rfl sc_law.nd (si_seq (se_lst (sa_cons (se_var (pv 6)) (sa_cons (se_var (pv 7)) (sa_cons (se_sl (se_var (pv 6)) so_none (so_some se_int)) (sa_cons (se_sl (se_var (pv 7)) so_none (so_some se_int)) (sa_cons (se_bin o_add (se_sl (se_var (pv 6)) so_none (so_some se_int)) (se_sl (se_var (pv 7)) so_none (so_some se_int))) sa_nil))))))) (blkOk_by (own := [("_law_spans", 5)]) (N := ["_law_script", "_law_k", "_law_pool_here", "_law_many", "_law_end", "_law_spans", "_law_ring", "_law_line"]) (sc := defScope s_law) (by decide +kernel)) (fun _ _ _ _ _ => (sgw_name (i := 5) (by decide) sc_law.nd rfl (by first | exact .inl rfl | exact .inr rfl))) (fun _ _ _ _ _ => sts_nil) (fun _ _ _ _ _ => (se_call takes0 (ok__law_right T) (hr.mono (by decide)) (by rfl) T.m__law_right T.F__law_right.kp T.B__law_right (sa_cons (se_tup (sa_cons se_int (sa_cons se_int (sa_cons (se_var (pv 5)) (sa_cons (se_tup sa_nil) sa_nil))))) sa_nil))))) sa_nil))))))))
end
theorem all_mk {l : PySem.W.OpenLaw} {w : World} {K : PySem.W.Frag} {h : Heap} {mg : Str → Option Value} {fa : Addr} (hlaw : LawTrue F_law) (X : K.In h) (G : h.Ns mainGlobals mg) (hfa : mg "law" = some (.ref fa))
    {a_is_whole : Addr} {od_is_whole an_is_whole : Option Addr} {sl_is_whole : Array (Option Value)} {oc_is_whole kV_is_whole dc_is_whole pm_is_whole cd_is_whole ct_is_whole : Value}
    (q_is_whole : PySem.W.nsIn K mainGlobals "is_whole" = some (some (.ref a_is_whole))) (l_is_whole : K.lookup a_is_whole = some ⟨oc_is_whole, od_is_whole, .func (PySem.W.fnOf "is_whole" "is_whole" (defArgs s_is_whole) (defBody s_is_whole) (defScope s_is_whole) .none kV_is_whole dc_is_whole pm_is_whole an_is_whole cd_is_whole ct_is_whole), sl_is_whole⟩) (c_is_whole : PySem.W.codeIn K cd_is_whole "is_whole" = true) (k_is_whole : PySem.W.keepIn K (.ref a_is_whole) = true)
    {a_is_within : Addr} {od_is_within an_is_within : Option Addr} {sl_is_within : Array (Option Value)} {oc_is_within kV_is_within dc_is_within pm_is_within cd_is_within ct_is_within : Value}
    (q_is_within : PySem.W.nsIn K mainGlobals "is_within" = some (some (.ref a_is_within))) (l_is_within : K.lookup a_is_within = some ⟨oc_is_within, od_is_within, .func (PySem.W.fnOf "is_within" "is_within" (defArgs s_is_within) (defBody s_is_within) (defScope s_is_within) .none kV_is_within dc_is_within pm_is_within an_is_within cd_is_within ct_is_within), sl_is_within⟩) (c_is_within : PySem.W.codeIn K cd_is_within "is_within" = true) (k_is_within : PySem.W.keepIn K (.ref a_is_within) = true)
    {a_is_span : Addr} {od_is_span an_is_span : Option Addr} {sl_is_span : Array (Option Value)} {oc_is_span kV_is_span dc_is_span pm_is_span cd_is_span ct_is_span : Value}
    (q_is_span : PySem.W.nsIn K mainGlobals "is_span" = some (some (.ref a_is_span))) (l_is_span : K.lookup a_is_span = some ⟨oc_is_span, od_is_span, .func (PySem.W.fnOf "is_span" "is_span" (defArgs s_is_span) (defBody s_is_span) (defScope s_is_span) .none kV_is_span dc_is_span pm_is_span an_is_span cd_is_span ct_is_span), sl_is_span⟩) (c_is_span : PySem.W.codeIn K cd_is_span "is_span" = true) (k_is_span : PySem.W.keepIn K (.ref a_is_span) = true)
    {a_is_bound : Addr} {od_is_bound an_is_bound : Option Addr} {sl_is_bound : Array (Option Value)} {oc_is_bound kV_is_bound dc_is_bound pm_is_bound cd_is_bound ct_is_bound : Value}
    (q_is_bound : PySem.W.nsIn K mainGlobals "is_bound" = some (some (.ref a_is_bound))) (l_is_bound : K.lookup a_is_bound = some ⟨oc_is_bound, od_is_bound, .func (PySem.W.fnOf "is_bound" "is_bound" (defArgs s_is_bound) (defBody s_is_bound) (defScope s_is_bound) .none kV_is_bound dc_is_bound pm_is_bound an_is_bound cd_is_bound ct_is_bound), sl_is_bound⟩) (c_is_bound : PySem.W.codeIn K cd_is_bound "is_bound" = true) (k_is_bound : PySem.W.keepIn K (.ref a_is_bound) = true)
    {a_spans_by_goal : Addr} {od_spans_by_goal an_spans_by_goal : Option Addr} {sl_spans_by_goal : Array (Option Value)} {oc_spans_by_goal kV_spans_by_goal dc_spans_by_goal pm_spans_by_goal cd_spans_by_goal ct_spans_by_goal : Value}
    (q_spans_by_goal : PySem.W.nsIn K mainGlobals "spans_by_goal" = some (some (.ref a_spans_by_goal))) (l_spans_by_goal : K.lookup a_spans_by_goal = some ⟨oc_spans_by_goal, od_spans_by_goal, .func (PySem.W.fnOf "spans_by_goal" "spans_by_goal" (defArgs s_spans_by_goal) (defBody s_spans_by_goal) (defScope s_spans_by_goal) .none kV_spans_by_goal dc_spans_by_goal pm_spans_by_goal an_spans_by_goal cd_spans_by_goal ct_spans_by_goal), sl_spans_by_goal⟩) (c_spans_by_goal : PySem.W.codeIn K cd_spans_by_goal "spans_by_goal" = true) (k_spans_by_goal : PySem.W.keepIn K (.ref a_spans_by_goal) = true)
    {a_way_from : Addr} {od_way_from an_way_from : Option Addr} {sl_way_from : Array (Option Value)} {oc_way_from kV_way_from dc_way_from pm_way_from cd_way_from ct_way_from : Value}
    (q_way_from : PySem.W.nsIn K mainGlobals "way_from" = some (some (.ref a_way_from))) (l_way_from : K.lookup a_way_from = some ⟨oc_way_from, od_way_from, .func (PySem.W.fnOf "way_from" "way_from" (defArgs s_way_from) (defBody s_way_from) (defScope s_way_from) .none kV_way_from dc_way_from pm_way_from an_way_from cd_way_from ct_way_from), sl_way_from⟩) (c_way_from : PySem.W.codeIn K cd_way_from "way_from" = true) (k_way_from : PySem.W.keepIn K (.ref a_way_from) = true)
    {a_are_spans : Addr} {od_are_spans an_are_spans : Option Addr} {sl_are_spans : Array (Option Value)} {oc_are_spans kV_are_spans dc_are_spans pm_are_spans cd_are_spans ct_are_spans : Value}
    (q_are_spans : PySem.W.nsIn K mainGlobals "are_spans" = some (some (.ref a_are_spans))) (l_are_spans : K.lookup a_are_spans = some ⟨oc_are_spans, od_are_spans, .func (PySem.W.fnOf "are_spans" "are_spans" (defArgs s_are_spans) (defBody s_are_spans) (defScope s_are_spans) .none kV_are_spans dc_are_spans pm_are_spans an_are_spans cd_are_spans ct_are_spans), sl_are_spans⟩) (c_are_spans : PySem.W.codeIn K cd_are_spans "are_spans" = true) (k_are_spans : PySem.W.keepIn K (.ref a_are_spans) = true)
    {a_is_book : Addr} {od_is_book an_is_book : Option Addr} {sl_is_book : Array (Option Value)} {oc_is_book kV_is_book dc_is_book pm_is_book cd_is_book ct_is_book : Value}
    (q_is_book : PySem.W.nsIn K mainGlobals "is_book" = some (some (.ref a_is_book))) (l_is_book : K.lookup a_is_book = some ⟨oc_is_book, od_is_book, .func (PySem.W.fnOf "is_book" "is_book" (defArgs s_is_book) (defBody s_is_book) (defScope s_is_book) .none kV_is_book dc_is_book pm_is_book an_is_book cd_is_book ct_is_book), sl_is_book⟩) (c_is_book : PySem.W.codeIn K cd_is_book "is_book" = true) (k_is_book : PySem.W.keepIn K (.ref a_is_book) = true)
    {a_check_book : Addr} {od_check_book an_check_book : Option Addr} {sl_check_book : Array (Option Value)} {oc_check_book kV_check_book dc_check_book pm_check_book cd_check_book ct_check_book : Value}
    (q_check_book : PySem.W.nsIn K mainGlobals "check_book" = some (some (.ref a_check_book))) (l_check_book : K.lookup a_check_book = some ⟨oc_check_book, od_check_book, .func (PySem.W.fnOf "check_book" "check_book" (defArgs s_check_book) (defBody s_check_book) (defScope s_check_book) .none kV_check_book dc_check_book pm_check_book an_check_book cd_check_book ct_check_book), sl_check_book⟩) (c_check_book : PySem.W.codeIn K cd_check_book "check_book" = true) (k_check_book : PySem.W.keepIn K (.ref a_check_book) = true)
    {a_check_mark : Addr} {od_check_mark an_check_mark : Option Addr} {sl_check_mark : Array (Option Value)} {oc_check_mark kV_check_mark dc_check_mark pm_check_mark cd_check_mark ct_check_mark : Value}
    (q_check_mark : PySem.W.nsIn K mainGlobals "check_mark" = some (some (.ref a_check_mark))) (l_check_mark : K.lookup a_check_mark = some ⟨oc_check_mark, od_check_mark, .func (PySem.W.fnOf "check_mark" "check_mark" (defArgs s_check_mark) (defBody s_check_mark) (defScope s_check_mark) .none kV_check_mark dc_check_mark pm_check_mark an_check_mark cd_check_mark ct_check_mark), sl_check_mark⟩) (c_check_mark : PySem.W.codeIn K cd_check_mark "check_mark" = true) (k_check_mark : PySem.W.keepIn K (.ref a_check_mark) = true)
    {a_froms : Addr} {od_froms an_froms : Option Addr} {sl_froms : Array (Option Value)} {oc_froms kV_froms dc_froms pm_froms cd_froms ct_froms : Value}
    (q_froms : PySem.W.nsIn K mainGlobals "froms" = some (some (.ref a_froms))) (l_froms : K.lookup a_froms = some ⟨oc_froms, od_froms, .func (PySem.W.fnOf "froms" "froms" (defArgs s_froms) (defBody s_froms) (defScope s_froms) .none kV_froms dc_froms pm_froms an_froms cd_froms ct_froms), sl_froms⟩) (c_froms : PySem.W.codeIn K cd_froms "froms" = true) (k_froms : PySem.W.keepIn K (.ref a_froms) = true)
    {a_ways_of : Addr} {od_ways_of an_ways_of : Option Addr} {sl_ways_of : Array (Option Value)} {oc_ways_of kV_ways_of dc_ways_of pm_ways_of cd_ways_of ct_ways_of : Value}
    (q_ways_of : PySem.W.nsIn K mainGlobals "ways_of" = some (some (.ref a_ways_of))) (l_ways_of : K.lookup a_ways_of = some ⟨oc_ways_of, od_ways_of, .func (PySem.W.fnOf "ways_of" "ways_of" (defArgs s_ways_of) (defBody s_ways_of) (defScope s_ways_of) .none kV_ways_of dc_ways_of pm_ways_of an_ways_of cd_ways_of ct_ways_of), sl_ways_of⟩) (c_ways_of : PySem.W.codeIn K cd_ways_of "ways_of" = true) (k_ways_of : PySem.W.keepIn K (.ref a_ways_of) = true)
    {a_chosen : Addr} {od_chosen an_chosen : Option Addr} {sl_chosen : Array (Option Value)} {oc_chosen kV_chosen dc_chosen pm_chosen cd_chosen ct_chosen : Value}
    (q_chosen : PySem.W.nsIn K mainGlobals "chosen" = some (some (.ref a_chosen))) (l_chosen : K.lookup a_chosen = some ⟨oc_chosen, od_chosen, .func (PySem.W.fnOf "chosen" "chosen" (defArgs s_chosen) (defBody s_chosen) (defScope s_chosen) .none kV_chosen dc_chosen pm_chosen an_chosen cd_chosen ct_chosen), sl_chosen⟩) (c_chosen : PySem.W.codeIn K cd_chosen "chosen" = true) (k_chosen : PySem.W.keepIn K (.ref a_chosen) = true)
    {a_root : Addr} {od_root an_root : Option Addr} {sl_root : Array (Option Value)} {oc_root kV_root dc_root pm_root cd_root ct_root : Value}
    (q_root : PySem.W.nsIn K mainGlobals "root" = some (some (.ref a_root))) (l_root : K.lookup a_root = some ⟨oc_root, od_root, .func (PySem.W.fnOf "root" "root" (defArgs s_root) (defBody s_root) (defScope s_root) .none kV_root dc_root pm_root an_root cd_root ct_root), sl_root⟩) (c_root : PySem.W.codeIn K cd_root "root" = true) (k_root : PySem.W.keepIn K (.ref a_root) = true)
    {a_show_book : Addr} {od_show_book an_show_book : Option Addr} {sl_show_book : Array (Option Value)} {oc_show_book kV_show_book dc_show_book pm_show_book cd_show_book ct_show_book : Value}
    (q_show_book : PySem.W.nsIn K mainGlobals "show_book" = some (some (.ref a_show_book))) (l_show_book : K.lookup a_show_book = some ⟨oc_show_book, od_show_book, .func (PySem.W.fnOf "show_book" "show_book" (defArgs s_show_book) (defBody s_show_book) (defScope s_show_book) .none kV_show_book dc_show_book pm_show_book an_show_book cd_show_book ct_show_book), sl_show_book⟩) (c_show_book : PySem.W.codeIn K cd_show_book "show_book" = true) (k_show_book : PySem.W.keepIn K (.ref a_show_book) = true)
    {a__law_pool : Addr} {od__law_pool an__law_pool : Option Addr} {sl__law_pool : Array (Option Value)} {oc__law_pool kV__law_pool dc__law_pool pm__law_pool cd__law_pool ct__law_pool : Value}
    (q__law_pool : PySem.W.nsIn K mainGlobals "_law_pool" = some (some (.ref a__law_pool))) (l__law_pool : K.lookup a__law_pool = some ⟨oc__law_pool, od__law_pool, .func (PySem.W.fnOf "_law_pool" "_law_pool" (defArgs s__law_pool) (defBody s__law_pool) (defScope s__law_pool) .none kV__law_pool dc__law_pool pm__law_pool an__law_pool cd__law_pool ct__law_pool), sl__law_pool⟩) (c__law_pool : PySem.W.codeIn K cd__law_pool "_law_pool" = true) (k__law_pool : PySem.W.keepIn K (.ref a__law_pool) = true)
    {a__law_take : Addr} {od__law_take an__law_take : Option Addr} {sl__law_take : Array (Option Value)} {oc__law_take kV__law_take dc__law_take pm__law_take cd__law_take ct__law_take : Value}
    (q__law_take : PySem.W.nsIn K mainGlobals "_law_take" = some (some (.ref a__law_take))) (l__law_take : K.lookup a__law_take = some ⟨oc__law_take, od__law_take, .func (PySem.W.fnOf "_law_take" "_law_take" (defArgs s__law_take) (defBody s__law_take) (defScope s__law_take) .none kV__law_take dc__law_take pm__law_take an__law_take cd__law_take ct__law_take), sl__law_take⟩) (c__law_take : PySem.W.codeIn K cd__law_take "_law_take" = true) (k__law_take : PySem.W.keepIn K (.ref a__law_take) = true)
    {a__law_root : Addr} {od__law_root an__law_root : Option Addr} {sl__law_root : Array (Option Value)} {oc__law_root kV__law_root dc__law_root pm__law_root cd__law_root ct__law_root : Value}
    (q__law_root : PySem.W.nsIn K mainGlobals "_law_root" = some (some (.ref a__law_root))) (l__law_root : K.lookup a__law_root = some ⟨oc__law_root, od__law_root, .func (PySem.W.fnOf "_law_root" "_law_root" (defArgs s__law_root) (defBody s__law_root) (defScope s__law_root) .none kV__law_root dc__law_root pm__law_root an__law_root cd__law_root ct__law_root), sl__law_root⟩) (c__law_root : PySem.W.codeIn K cd__law_root "_law_root" = true) (k__law_root : PySem.W.keepIn K (.ref a__law_root) = true)
    {a__law_any_spans : Addr} {od__law_any_spans an__law_any_spans : Option Addr} {sl__law_any_spans : Array (Option Value)} {oc__law_any_spans kV__law_any_spans dc__law_any_spans pm__law_any_spans cd__law_any_spans ct__law_any_spans : Value}
    (q__law_any_spans : PySem.W.nsIn K mainGlobals "_law_any_spans" = some (some (.ref a__law_any_spans))) (l__law_any_spans : K.lookup a__law_any_spans = some ⟨oc__law_any_spans, od__law_any_spans, .func (PySem.W.fnOf "_law_any_spans" "_law_any_spans" (defArgs s__law_any_spans) (defBody s__law_any_spans) (defScope s__law_any_spans) .none kV__law_any_spans dc__law_any_spans pm__law_any_spans an__law_any_spans cd__law_any_spans ct__law_any_spans), sl__law_any_spans⟩) (c__law_any_spans : PySem.W.codeIn K cd__law_any_spans "_law_any_spans" = true) (k__law_any_spans : PySem.W.keepIn K (.ref a__law_any_spans) = true)
    {a__law_refused : Addr} {od__law_refused an__law_refused : Option Addr} {sl__law_refused : Array (Option Value)} {oc__law_refused kV__law_refused dc__law_refused pm__law_refused cd__law_refused ct__law_refused : Value}
    (q__law_refused : PySem.W.nsIn K mainGlobals "_law_refused" = some (some (.ref a__law_refused))) (l__law_refused : K.lookup a__law_refused = some ⟨oc__law_refused, od__law_refused, .func (PySem.W.fnOf "_law_refused" "_law_refused" (defArgs s__law_refused) (defBody s__law_refused) (defScope s__law_refused) .none kV__law_refused dc__law_refused pm__law_refused an__law_refused cd__law_refused ct__law_refused), sl__law_refused⟩) (c__law_refused : PySem.W.codeIn K cd__law_refused "_law_refused" = true) (k__law_refused : PySem.W.keepIn K (.ref a__law_refused) = true)
    {a__law_right : Addr} {od__law_right an__law_right : Option Addr} {sl__law_right : Array (Option Value)} {oc__law_right kV__law_right dc__law_right pm__law_right cd__law_right ct__law_right : Value}
    (q__law_right : PySem.W.nsIn K mainGlobals "_law_right" = some (some (.ref a__law_right))) (l__law_right : K.lookup a__law_right = some ⟨oc__law_right, od__law_right, .func (PySem.W.fnOf "_law_right" "_law_right" (defArgs s__law_right) (defBody s__law_right) (defScope s__law_right) .none kV__law_right dc__law_right pm__law_right an__law_right cd__law_right ct__law_right), sl__law_right⟩) (c__law_right : PySem.W.codeIn K cd__law_right "_law_right" = true) (k__law_right : PySem.W.keepIn K (.ref a__law_right) = true)
    {a_law : Addr} {od_law an_law : Option Addr} {sl_law : Array (Option Value)} {oc_law kV_law dc_law pm_law cd_law ct_law : Value}
    (q_law : PySem.W.nsIn K mainGlobals "law" = some (some (.ref a_law))) (l_law : K.lookup a_law = some ⟨oc_law, od_law, .func (PySem.W.fnOf "law" "law" (defArgs s_law) (defBody s_law) (defScope s_law) .none kV_law dc_law pm_law an_law cd_law ct_law), sl_law⟩) (c_law : PySem.W.codeIn K cd_law "law" = true) (k_law : PySem.W.keepIn K (.ref a_law) = true)
    (n_abs : PySem.W.nsIn K mainGlobals "abs" = some none)
    (n_all : PySem.W.nsIn K mainGlobals "all" = some none)
    (n_bool : PySem.W.nsIn K mainGlobals "bool" = some none)
    (n_divmod : PySem.W.nsIn K mainGlobals "divmod" = some none)
    (n_enumerate : PySem.W.nsIn K mainGlobals "enumerate" = some none)
    (n_int : PySem.W.nsIn K mainGlobals "int" = some none)
    (n_isinstance : PySem.W.nsIn K mainGlobals "isinstance" = some none)
    (n_len : PySem.W.nsIn K mainGlobals "len" = some none)
    (n_max : PySem.W.nsIn K mainGlobals "max" = some none)
    (n_min : PySem.W.nsIn K mainGlobals "min" = some none)
    (n_range : PySem.W.nsIn K mainGlobals "range" = some none)
    (n_set : PySem.W.nsIn K mainGlobals "set" = some none)
    (n_sum : PySem.W.nsIn K mainGlobals "sum" = some none)
    (n_tuple : PySem.W.nsIn K mainGlobals "tuple" = some none)
    {t_MOST_BOUNDS : Tok} (g_MOST_BOUNDS : PySem.W.nsIn K mainGlobals "MOST_BOUNDS" = some (some (.int 30 t_MOST_BOUNDS)))
    {t_MOST_END : Tok} (g_MOST_END : PySem.W.nsIn K mainGlobals "MOST_END" = some (some (.int 60 t_MOST_END)))
    {t_MOST_MARKS : Tok} (g_MOST_MARKS : PySem.W.nsIn K mainGlobals "MOST_MARKS" = some (some (.int 10 t_MOST_MARKS)))
    {t_MOST_SPANS : Tok} (g_MOST_SPANS : PySem.W.nsIn K mainGlobals "MOST_SPANS" = some (some (.int 4 t_MOST_SPANS)))
    {t_MOST_W : Tok} (g_MOST_W : PySem.W.nsIn K mainGlobals "MOST_W" = some (some (.int 60 t_MOST_W)))
    {C_NoBook : Addr} (eg_NoBook : PySem.W.nsIn K mainGlobals "NoBook" = some (some (.ref C_NoBook))) (ex_NoBook : PySem.W.excIn K C_NoBook [.type "ValueError", .type "Exception", .type "BaseException", .type "object"] "ValueError.__new__" = true) (ek_NoBook : PySem.W.keepIn K (.ref C_NoBook) = true) (eb_NoBook : PySem.W.subIn K (.ref C_NoBook) (.type "BaseException") = some true) (et_NoBook : PySem.W.typeIn K (.ref C_NoBook) = some (.type "type")) (ei_NoBook : PySem.W.isClsIn K C_NoBook = true)
    {C_NoMark : Addr} (eg_NoMark : PySem.W.nsIn K mainGlobals "NoMark" = some (some (.ref C_NoMark))) (ex_NoMark : PySem.W.excIn K C_NoMark [.type "ValueError", .type "Exception", .type "BaseException", .type "object"] "ValueError.__new__" = true) (ek_NoMark : PySem.W.keepIn K (.ref C_NoMark) = true) (eb_NoMark : PySem.W.subIn K (.ref C_NoMark) (.type "BaseException") = some true) (et_NoMark : PySem.W.typeIn K (.ref C_NoMark) = some (.type "type")) (ei_NoMark : PySem.W.isClsIn K C_NoMark = true)
    (sx_NoBook_NoBook : PySem.W.subIn K (.ref C_NoBook) (.ref C_NoBook) = some true) :
    ∃ fd : FuncData, (∀ (s : Shared) (u : Value), BindsTo s fd ⟨[u], []⟩ [("_law_script", u)]) ∧ ∀ base : Heap, K.In base → base.Ns mainGlobals mg → FnOk l.prog w K mg base (L2.CX l.prog w) 10 fa fd ["_law_script"] (spLaw K) := by
  have e := hfa.symm.trans (PySem.W.mg_of X G q_law)
  have e2 : a_law = fa := by cases e; rfl
  subst e2
  let T : TX K mg := { a_is_whole := a_is_whole, fd_is_whole := _, m_is_whole := PySem.W.mg_of X G q_is_whole, F_is_whole := fun_mk (st := s_is_whole) l_is_whole c_is_whole k_is_whole, B_is_whole := (fun_mk (st := s_is_whole) l_is_whole c_is_whole k_is_whole).binds (ps := ["x"]) (fun _ _ _ _ _ _ us hl => match us, hl with | [_], _ => rfl), a_is_within := a_is_within, fd_is_within := _, m_is_within := PySem.W.mg_of X G q_is_within, F_is_within := fun_mk (st := s_is_within) l_is_within c_is_within k_is_within, B_is_within := (fun_mk (st := s_is_within) l_is_within c_is_within k_is_within).binds (ps := ["x", "least", "most"]) (fun _ _ _ _ _ _ us hl => match us, hl with | [_, _, _], _ => rfl), a_is_span := a_is_span, fd_is_span := _, m_is_span := PySem.W.mg_of X G q_is_span, F_is_span := fun_mk (st := s_is_span) l_is_span c_is_span k_is_span, B_is_span := (fun_mk (st := s_is_span) l_is_span c_is_span k_is_span).binds (ps := ["thing", "end", "many"]) (fun _ _ _ _ _ _ us hl => match us, hl with | [_, _, _], _ => rfl), a_is_bound := a_is_bound, fd_is_bound := _, m_is_bound := PySem.W.mg_of X G q_is_bound, F_is_bound := fun_mk (st := s_is_bound) l_is_bound c_is_bound k_is_bound, B_is_bound := (fun_mk (st := s_is_bound) l_is_bound c_is_bound k_is_bound).binds (ps := ["thing", "many"]) (fun _ _ _ _ _ _ us hl => match us, hl with | [_, _], _ => rfl), a_spans_by_goal := a_spans_by_goal, fd_spans_by_goal := _, m_spans_by_goal := PySem.W.mg_of X G q_spans_by_goal, F_spans_by_goal := fun_mk (st := s_spans_by_goal) l_spans_by_goal c_spans_by_goal k_spans_by_goal, B_spans_by_goal := (fun_mk (st := s_spans_by_goal) l_spans_by_goal c_spans_by_goal k_spans_by_goal).binds (ps := ["spans"]) (fun _ _ _ _ _ _ us hl => match us, hl with | [_], _ => rfl), a_way_from := a_way_from, fd_way_from := _, m_way_from := PySem.W.mg_of X G q_way_from, F_way_from := fun_mk (st := s_way_from) l_way_from c_way_from k_way_from, B_way_from := (fun_mk (st := s_way_from) l_way_from c_way_from k_way_from).binds (ps := ["spans", "known", "mark"]) (fun _ _ _ _ _ _ us hl => match us, hl with | [_, _, _], _ => rfl), a_are_spans := a_are_spans, fd_are_spans := _, m_are_spans := PySem.W.mg_of X G q_are_spans, F_are_spans := fun_mk (st := s_are_spans) l_are_spans c_are_spans k_are_spans, B_are_spans := (fun_mk (st := s_are_spans) l_are_spans c_are_spans k_are_spans).binds (ps := ["thing", "end", "many"]) (fun _ _ _ _ _ _ us hl => match us, hl with | [_, _, _], _ => rfl), a_is_book := a_is_book, fd_is_book := _, m_is_book := PySem.W.mg_of X G q_is_book, F_is_book := fun_mk (st := s_is_book) l_is_book c_is_book k_is_book, B_is_book := (fun_mk (st := s_is_book) l_is_book c_is_book k_is_book).binds (ps := ["thing"]) (fun _ _ _ _ _ _ us hl => match us, hl with | [_], _ => rfl), a_check_book := a_check_book, fd_check_book := _, m_check_book := PySem.W.mg_of X G q_check_book, F_check_book := fun_mk (st := s_check_book) l_check_book c_check_book k_check_book, B_check_book := (fun_mk (st := s_check_book) l_check_book c_check_book k_check_book).binds (ps := ["book"]) (fun _ _ _ _ _ _ us hl => match us, hl with | [_], _ => rfl), a_check_mark := a_check_mark, fd_check_mark := _, m_check_mark := PySem.W.mg_of X G q_check_mark, F_check_mark := fun_mk (st := s_check_mark) l_check_mark c_check_mark k_check_mark, B_check_mark := (fun_mk (st := s_check_mark) l_check_mark c_check_mark k_check_mark).binds (ps := ["book", "mark"]) (fun _ _ _ _ _ _ us hl => match us, hl with | [_, _], _ => rfl), a_froms := a_froms, fd_froms := _, m_froms := PySem.W.mg_of X G q_froms, F_froms := fun_mk (st := s_froms) l_froms c_froms k_froms, B_froms := (fun_mk (st := s_froms) l_froms c_froms k_froms).binds (ps := ["book"]) (fun _ _ _ _ _ _ us hl => match us, hl with | [_], _ => rfl), a_ways_of := a_ways_of, fd_ways_of := _, m_ways_of := PySem.W.mg_of X G q_ways_of, F_ways_of := fun_mk (st := s_ways_of) l_ways_of c_ways_of k_ways_of, B_ways_of := (fun_mk (st := s_ways_of) l_ways_of c_ways_of k_ways_of).binds (ps := ["book"]) (fun _ _ _ _ _ _ us hl => match us, hl with | [_], _ => rfl), a_chosen := a_chosen, fd_chosen := _, m_chosen := PySem.W.mg_of X G q_chosen, F_chosen := fun_mk (st := s_chosen) l_chosen c_chosen k_chosen, B_chosen := (fun_mk (st := s_chosen) l_chosen c_chosen k_chosen).binds (ps := ["book"]) (fun _ _ _ _ _ _ us hl => match us, hl with | [_], _ => rfl), a_root := a_root, fd_root := _, m_root := PySem.W.mg_of X G q_root, F_root := fun_mk (st := s_root) l_root c_root k_root, B_root := (fun_mk (st := s_root) l_root c_root k_root).binds (ps := ["book", "mark"]) (fun _ _ _ _ _ _ us hl => match us, hl with | [_, _], _ => rfl), a_show_book := a_show_book, fd_show_book := _, m_show_book := PySem.W.mg_of X G q_show_book, F_show_book := fun_mk (st := s_show_book) l_show_book c_show_book k_show_book, B_show_book := (fun_mk (st := s_show_book) l_show_book c_show_book k_show_book).binds (ps := ["book"]) (fun _ _ _ _ _ _ us hl => match us, hl with | [_], _ => rfl), a__law_pool := a__law_pool, fd__law_pool := _, m__law_pool := PySem.W.mg_of X G q__law_pool, F__law_pool := fun_mk (st := s__law_pool) l__law_pool c__law_pool k__law_pool, B__law_pool := (fun_mk (st := s__law_pool) l__law_pool c__law_pool k__law_pool).binds (ps := ["_law_script", "_law_k"]) (fun _ _ _ _ _ _ us hl => match us, hl with | [_, _], _ => rfl), a__law_take := a__law_take, fd__law_take := _, m__law_take := PySem.W.mg_of X G q__law_take, F__law_take := fun_mk (st := s__law_take) l__law_take c__law_take k__law_take, B__law_take := (fun_mk (st := s__law_take) l__law_take c__law_take k__law_take).binds (ps := ["_law_pool_here", "_law_many"]) (fun _ _ _ _ _ _ us hl => match us, hl with | [_, _], _ => rfl), a__law_root := a__law_root, fd__law_root := _, m__law_root := PySem.W.mg_of X G q__law_root, F__law_root := fun_mk (st := s__law_root) l__law_root c__law_root k__law_root, B__law_root := (fun_mk (st := s__law_root) l__law_root c__law_root k__law_root).binds (ps := ["_law_spans", "_law_mark"]) (fun _ _ _ _ _ _ us hl => match us, hl with | [_, _], _ => rfl), a__law_any_spans := a__law_any_spans, fd__law_any_spans := _, m__law_any_spans := PySem.W.mg_of X G q__law_any_spans, F__law_any_spans := fun_mk (st := s__law_any_spans) l__law_any_spans c__law_any_spans k__law_any_spans, B__law_any_spans := (fun_mk (st := s__law_any_spans) l__law_any_spans c__law_any_spans k__law_any_spans).binds (ps := ["_law_pool_here", "_law_many", "_law_end"]) (fun _ _ _ _ _ _ us hl => match us, hl with | [_, _, _], _ => rfl), a__law_refused := a__law_refused, fd__law_refused := _, m__law_refused := PySem.W.mg_of X G q__law_refused, F__law_refused := fun_mk (st := s__law_refused) l__law_refused c__law_refused k__law_refused, B__law_refused := (fun_mk (st := s__law_refused) l__law_refused c__law_refused k__law_refused).binds (ps := ["_law_book"]) (fun _ _ _ _ _ _ us hl => match us, hl with | [_], _ => rfl), a__law_right := a__law_right, fd__law_right := _, m__law_right := PySem.W.mg_of X G q__law_right, F__law_right := fun_mk (st := s__law_right) l__law_right c__law_right k__law_right, B__law_right := (fun_mk (st := s__law_right) l__law_right c__law_right k__law_right).binds (ps := ["_law_book"]) (fun _ _ _ _ _ _ us hl => match us, hl with | [_], _ => rfl), a_law := a_law, fd_law := _, m_law := PySem.W.mg_of X G q_law, F_law := fun_mk (st := s_law) l_law c_law k_law, B_law := (fun_mk (st := s_law) l_law c_law k_law).binds (ps := ["_law_script"]) (fun _ _ _ _ _ _ us hl => match us, hl with | [_], _ => rfl), n_abs := PySem.W.mg_none_of X G n_abs, n_all := PySem.W.mg_none_of X G n_all, n_bool := PySem.W.mg_none_of X G n_bool, n_divmod := PySem.W.mg_none_of X G n_divmod, n_enumerate := PySem.W.mg_none_of X G n_enumerate, n_int := PySem.W.mg_none_of X G n_int, n_isinstance := PySem.W.mg_none_of X G n_isinstance, n_len := PySem.W.mg_none_of X G n_len, n_max := PySem.W.mg_none_of X G n_max, n_min := PySem.W.mg_none_of X G n_min, n_range := PySem.W.mg_none_of X G n_range, n_set := PySem.W.mg_none_of X G n_set, n_sum := PySem.W.mg_none_of X G n_sum, n_tuple := PySem.W.mg_none_of X G n_tuple, t_MOST_BOUNDS := t_MOST_BOUNDS, g_MOST_BOUNDS := PySem.W.mg_of X G g_MOST_BOUNDS, t_MOST_END := t_MOST_END, g_MOST_END := PySem.W.mg_of X G g_MOST_END, t_MOST_MARKS := t_MOST_MARKS, g_MOST_MARKS := PySem.W.mg_of X G g_MOST_MARKS, t_MOST_SPANS := t_MOST_SPANS, g_MOST_SPANS := PySem.W.mg_of X G g_MOST_SPANS, t_MOST_W := t_MOST_W, g_MOST_W := PySem.W.mg_of X G g_MOST_W, C_NoBook := C_NoBook, e_NoBook := ⟨PySem.W.mg_of X G eg_NoBook, ex_NoBook, ek_NoBook, eb_NoBook, et_NoBook, ei_NoBook⟩, C_NoMark := C_NoMark, e_NoMark := ⟨PySem.W.mg_of X G eg_NoMark, ex_NoMark, ek_NoMark, eb_NoMark, et_NoMark, ei_NoMark⟩, x_NoBook_NoBook := exm_sub eb_NoBook ei_NoBook et_NoBook sx_NoBook_NoBook }
  exact ⟨_, fun s u => .of_eq rfl, fun base _ _ => law_fn hlaw (ok_law T)⟩
end Law

namespace Law
open PySem DL L2
theorem mul_mod (m1 : Int) : mulD (.int m1) (.int (m1 % 65537 + 3)) = some (.int (m1 * (m1 % 65537 + 3))) := mulD_r (small_of (by omega) (by omega))
theorem nn_found (m1 f : Int) (h : 0 ≤ f) : 0 ≤ f * 100000000000 + m1 * (m1 % 65537 + 3) % 99999999977 := by
  have h2 : 0 ≤ m1 * (m1 % 65537 + 3) % 99999999977 := Int.emod_nonneg _ (by decide)
  omega
theorem pool_e1 (x0 x1 x2 : Option Val) (m t m1 f : Int) (b2 : modD (.int (m % 999999999989 * 69621 + 40503 * t + 271)) (.int 999999999989) = some (.int m1)) : (eBin modD (eBin addD (eBin addD (eBin mulD (eBin modD (eVar 3) (eC (.int 999999999989))) (eC (.int 69621))) (eBin mulD (eC (.int 40503)) (eVar 5))) (eC (.int 271))) (eC (.int 999999999989))) [x0, x1, x2, some (.d (.int m)), some (.d (.int f)), some (.d (.int t))] [] = .ok (.d (.int m1)) [] := by
  have a1 : mulD (.int (m % 999999999989)) (.int 69621) = some (.int (m % 999999999989 * 69621)) := mulD_r (by decide)
  have a2 : mulD (.int 40503) (.int t) = some (.int (40503 * t)) := mulD_l (by decide)
  have b1 : modD (.int m) (.int 999999999989) = some (.int (m % 999999999989)) := modD_ok (by decide)
  simp [a1, a2, b1, b2, mkFn, fin, sSeq, sRet, sRetN, sIf, sNil, sExpr, sSet, sAsg, sPut, sRaise, sBrk, sCt, gNm, gTp, gsCons, gsNil, gSb, eVar, eC, eBin, op2, op2R, ofO, look, lookR, eIx, ixD, eSl, pNone, pSome, eTup, eLst, mkSeq, allD, aNil, aCons, eAnd, eOr, eNot, eNeg, eIf, eChain, asB, tOf, tTru, tNotE, tAndE, tOrE, truV, truthD, eCB, lookAll, eIsi, isiD, eCall, callM, lent, rebase, puts, back, isLive, R.bind, R.st, R.fl, R.noX, addD, subD, cmpD, lenD, allBD, absD, intD, tupleD, divmodD, max2D, min2D, itR1, itR2, ofL, sFor, slD, eLstM, mkLoc]
theorem pool_e2 (x0 x1 x2 x5 : Option Val) (m1 f : Int) : (eBin addD (eBin mulD (eVar 4) (eBin powD (eC (.int 10)) (eC (.int 11)))) (eBin modD (eBin mulD (eVar 3) (eBin addD (eBin modD (eVar 3) (eC (.int 65537))) (eC (.int 3)))) (eC (.int 99999999977)))) [x0, x1, x2, some (.d (.int m1)), some (.d (.int f)), x5] [] = .ok (.d (.int (f * 100000000000 + m1 * (m1 % 65537 + 3) % 99999999977))) [] := by
  have a3 : mulD (.int f) (.int 100000000000) = some (.int (f * 100000000000)) := mulD_r (by decide)
  have a4 : mulD (.int m1) (.int (m1 % 65537 + 3)) = some (.int (m1 * (m1 % 65537 + 3))) := mul_mod m1
  have b3 : modD (.int m1) (.int 65537) = some (.int (m1 % 65537)) := modD_ok (by decide)
  have b4 : modD (.int (m1 * (m1 % 65537 + 3))) (.int 99999999977) = some (.int (m1 * (m1 % 65537 + 3) % 99999999977)) := modD_ok (by decide)
  simp [a3, a4, b3, b4, pw11, mkFn, fin, sSeq, sRet, sRetN, sIf, sNil, sExpr, sSet, sAsg, sPut, sRaise, sBrk, sCt, gNm, gTp, gsCons, gsNil, gSb, eVar, eC, eBin, op2, op2R, ofO, look, lookR, eIx, ixD, eSl, pNone, pSome, eTup, eLst, mkSeq, allD, aNil, aCons, eAnd, eOr, eNot, eNeg, eIf, eChain, asB, tOf, tTru, tNotE, tAndE, tOrE, truV, truthD, eCB, lookAll, eIsi, isiD, eCall, callM, lent, rebase, puts, back, isLive, R.bind, R.st, R.fl, R.noX, addD, subD, cmpD, lenD, allBD, absD, intD, tupleD, divmodD, max2D, min2D, itR1, itR2, ofL, sFor, slD, eLstM, mkLoc]
theorem pool_m (m t m1 : Int) (e : (m % 999999999989 * 69621 + 40503 * t + 271) % 999999999989 = m1) : modD (.int (m % 999999999989 * 69621 + 40503 * (t : Int) + 271)) (.int 999999999989) = some (.int m1) := by rw [modD_ok (by decide), e]
theorem pool_step {x0 x1 x2 : Option Val} (m f t m1 : Int) (e : (m % 999999999989 * 69621 + 40503 * t + 271) % 999999999989 = m1) (f1 : Int) (e2 : f * 100000000000 + m1 * (m1 % 65537 + 3) % 99999999977 = f1) :
    m_law_pool_L1 [x0, x1, x2, some (.d (.int m)), some (.d (.int f)), some (.d (.int t))] [] = .ok (.nx [x0, x1, x2, some (.d (.int m1)), some (.d (.int f1)), some (.d (.int t))]) [] := by
  subst e2
  exact sSeq_nx (sSet_ok (pool_e1 x0 x1 x2 m t m1 f (pool_m m t m1 e)) rfl) (sSet_ok (pool_e2 x0 x1 x2 _ m1 f) rfl)
theorem pool_loop {x0 x1 x2 : Option Val} : ∀ (ds : List D) (m f : Int) (o : Option Val), (∀ d ∈ ds, ∃ t : Nat, d = .int t ∧ t < 1000) → 0 ≤ f →
    ∃ (m' f' : Int) (o' : Option Val), 0 ≤ f' ∧ forL (gNm 5) m_law_pool_L1 ds [x0, x1, x2, some (.d (.int m)), some (.d (.int f)), o] [] = .ok (.nx [x0, x1, x2, some (.d (.int m')), some (.d (.int f')), o']) [] := by
  intro ds
  induction ds with
  | nil => exact fun m f o _ h => ⟨m, f, o, h, rfl⟩
  | cons d ds ih =>
    intro m f o hd h
    obtain ⟨t, rfl, ht⟩ := hd d List.mem_cons_self
    have hn := fun m1 => nn_found m1 f h
    generalize e : (m % 999999999989 * 69621 + 40503 * (t : Int) + 271) % 999999999989 = m1
    have hn1 := hn m1
    generalize e2 : f * 100000000000 + m1 * (m1 % 65537 + 3) % 99999999977 = f1 at hn1
    obtain ⟨m', f', o', hf, he⟩ := ih m1 f1 (some (.d (.int t))) (fun x hx => hd x (List.mem_cons_of_mem _ hx)) hn1
    exact ⟨m', f', o', hf, forN_cons rfl (pool_step m f t m1 e f1 e2) he⟩
theorem pool_ok (ns : List Int) (k : Int) (h0 : 0 ≤ k) (h1 : k ≤ 100) : ∃ N : Int, 0 ≤ N ∧ F__law_pool [.scr (intl ns), .d (.int k)] [] = .ok (.loc 0) [some (.lst [.int N])] := by
  generalize ec : (cutD ns (some k) (some (k + 1))).sum = c
  have es := sumD_cut ns (some k) (some (k + 1))
  rw [ec] at es
  have er : rgI 0 27 = some (rangeD 0 27) := rfl
  by_cases hc : c < 0 ∨ 1000000000000000000 ≤ c
  · refine ⟨(if c < 0 then -c else c) % P384, Int.emod_nonneg _ (by decide +kernel), ?_⟩
    by_cases z : c < 0
    · simp [F__law_pool, b__law_pool, es, z, pw18, pw64, ml128, ml192, ml256, ml320, ml384, modD_ok P384_pos, mkFn, fin, sSeq, sRet, sRetN, sIf, sNil, sExpr, sSet, sAsg, sPut, sRaise, sBrk, sCt, gNm, gTp, gsCons, gsNil, gSb, eVar, eC, eBin, op2, op2R, ofO, look, lookR, eIx, ixD, eSl, pNone, pSome, eTup, eLst, mkSeq, allD, aNil, aCons, eAnd, eOr, eNot, eNeg, eIf, eChain, asB, tOf, tTru, tNotE, tAndE, tOrE, truV, truthD, eCB, lookAll, eIsi, isiD, eCall, callM, lent, rebase, puts, back, isLive, R.bind, R.st, R.fl, R.noX, addD, subD, cmpD, lenD, allBD, absD, intD, tupleD, divmodD, max2D, min2D, itR1, itR2, ofL, sFor, slD, eLstM, mkLoc]
    · have z2 : 1000000000000000000 ≤ c := by omega
      simp [F__law_pool, b__law_pool, es, z, z2, pw18, pw64, ml128, ml192, ml256, ml320, ml384, modD_ok P384_pos, mkFn, fin, sSeq, sRet, sRetN, sIf, sNil, sExpr, sSet, sAsg, sPut, sRaise, sBrk, sCt, gNm, gTp, gsCons, gsNil, gSb, eVar, eC, eBin, op2, op2R, ofO, look, lookR, eIx, ixD, eSl, pNone, pSome, eTup, eLst, mkSeq, allD, aNil, aCons, eAnd, eOr, eNot, eNeg, eIf, eChain, asB, tOf, tTru, tNotE, tAndE, tOrE, truV, truthD, eCB, lookAll, eIsi, isiD, eCall, callM, lent, rebase, puts, back, isLive, R.bind, R.st, R.fl, R.noX, addD, subD, cmpD, lenD, allBD, absD, intD, tupleD, divmodD, max2D, min2D, itR1, itR2, ofL, sFor, slD, eLstM, mkLoc]
  · have z : ¬ c < 0 := fun h => hc (.inl h)
    have z2 : ¬ 1000000000000000000 ≤ c := fun h => hc (.inr h)
    have a1 : mulD (.int c) (.int 48271) = some (.int (c * 48271)) := mulD_r rfl
    have a2 : mulD (.int 977) (.int k) = some (.int (977 * k)) := mulD_l rfl
    have a3 : mulD (.int (977 * k)) (.int k) = some (.int (977 * k * k)) := mulD_r (small_of (by omega) (by omega))
    obtain ⟨m', f', o', hf, he⟩ := pool_loop (x0 := some (.scr (intl ns))) (x1 := some (.d (.int k))) (x2 := some (.d (.int c))) (rangeD 0 27) (c * 48271 + 977 * k * k + 13) 0 none
      (fun d hd => by simp only [rangeD, List.mem_map, List.mem_range] at hd; obtain ⟨t, ht, rfl⟩ := hd; exact ⟨t, by simp, by omega⟩) (by decide)
    refine ⟨f', hf, ?_⟩
    simp [F__law_pool, b__law_pool, es, z, z2, pw18, a1, a2, a3, er, he, mkFn, fin, sSeq, sRet, sRetN, sIf, sNil, sExpr, sSet, sAsg, sPut, sRaise, sBrk, sCt, gNm, gTp, gsCons, gsNil, gSb, eVar, eC, eBin, op2, op2R, ofO, look, lookR, eIx, ixD, eSl, pNone, pSome, eTup, eLst, mkSeq, allD, aNil, aCons, eAnd, eOr, eNot, eNeg, eIf, eChain, asB, tOf, tTru, tNotE, tAndE, tOrE, truV, truthD, eCB, lookAll, eIsi, isiD, eCall, callM, lent, rebase, puts, back, isLive, R.bind, R.st, R.fl, R.noX, addD, subD, cmpD, lenD, allBD, absD, intD, tupleD, divmodD, max2D, min2D, itR1, itR2, ofL, sFor, slD, eLstM, mkLoc]
theorem take_ok (N k : Int) (h0 : 0 < k) (h1 : k < 1073741824) : F__law_take [.loc 0, .d (.int k)] [some (.lst [.int N])] = .ok (.d (.int (N % k))) [some (.lst [.int (N / k)])] := by
  simp [F__law_take, b__law_take, h0, h1, atI, ixN, setL, mkFn, fin, sSeq, sRet, sRetN, sIf, sNil, sExpr, sSet, sAsg, sPut, sRaise, sBrk, sCt, gNm, gTp, gsCons, gsNil, gSb, eVar, eC, eBin, op2, op2R, ofO, look, lookR, eIx, ixD, eSl, pNone, pSome, eTup, eLst, mkSeq, allD, aNil, aCons, eAnd, eOr, eNot, eNeg, eIf, eChain, asB, tOf, tTru, tNotE, tAndE, tOrE, truV, truthD, eCB, lookAll, eIsi, isiD, eCall, callM, lent, rebase, puts, back, isLive, R.bind, R.st, R.fl, R.noX, addD, subD, cmpD, lenD, allBD, absD, intD, tupleD, divmodD, max2D, min2D, itR1, itR2, ofL, sFor, slD, eLstM, mkLoc]
theorem take_call {N k : Int} {n : Nat} {S : Sto} (hS : S[n]? = some (some (.lst [.int N]))) (h0 : 0 < k) (h1 : k < 1073741824) : callM 2 F__law_take [.loc n, .d (.int k)] S = .ok (.d (.int (N % k))) (S.set n (some (.lst [.int (N / k)]))) := by
  simp [callM, lent, isLive, hS, rebase, take_ok N k h0 h1, back, puts]
end Law

namespace Law
open PySem DL L2
structure Sp where
  a : Int
  g : Int
  l : Int
  m : Int
def Sp.d (s : Sp) : D := .tuple [.int s.a, .int s.g, .int s.l, .int s.m]
structure SpOk (e n : Int) (s : Sp) : Prop where
  a0 : 0 ≤ s.a
  a1 : s.a ≤ n - 1
  g0 : 1 ≤ s.g
  g1 : s.g ≤ n - 1
  ne : s.a ≠ s.g
  l0 : 1 ≤ s.l
  lm : s.l ≤ s.m
  me : s.m ≤ e
theorem e_is_within (x a b : Int) (S : Sto) : F_is_within [.d (.int x), .d (.int a), .d (.int b)] S = .ok (.d (.bool (decide (a ≤ x) && decide (x ≤ b)))) S := by
  simp [F_is_within, b_is_within, F_is_whole, b_is_whole, mkFn, fin, sSeq, sRet, sRetN, sIf, sNil, sExpr, sSet, sAsg, sPut, sRaise, sBrk, sCt, gNm, gTp, gsCons, gsNil, gSb, eVar, eC, eBin, op2, op2R, ofO, look, lookR, eIx, ixD, eSl, pNone, pSome, eTup, eLst, mkSeq, allD, aNil, aCons, eAnd, eOr, eNot, eNeg, eIf, eChain, asB, tOf, tTru, tNotE, tAndE, tOrE, truV, truthD, eCB, lookAll, eIsi, isiD, eCall, callM, lent, rebase, puts, back, isLive, R.bind, R.st, R.fl, R.noX, addD, subD, cmpD, lenD, allBD, absD, intD, tupleD, divmodD, max2D, min2D, itR1, itR2, ofL, sFor, slD, eLstM, mkLoc]
  cases h : decide (a ≤ x) <;> simp [h, mkFn, fin, sSeq, sRet, sRetN, sIf, sNil, sExpr, sSet, sAsg, sPut, sRaise, sBrk, sCt, gNm, gTp, gsCons, gsNil, gSb, eVar, eC, eBin, op2, op2R, ofO, look, lookR, eIx, ixD, eSl, pNone, pSome, eTup, eLst, mkSeq, allD, aNil, aCons, eAnd, eOr, eNot, eNeg, eIf, eChain, asB, tOf, tTru, tNotE, tAndE, tOrE, truV, truthD, eCB, lookAll, eIsi, isiD, eCall, callM, lent, rebase, puts, back, isLive, R.bind, R.st, R.fl, R.noX, addD, subD, cmpD, lenD, allBD, absD, intD, tupleD, divmodD, max2D, min2D, itR1, itR2, ofL, sFor, slD, eLstM, mkLoc]
theorem c_within {x a b : Int} {S : Sto} {r : Bool} (h : (decide (a ≤ x) && decide (x ≤ b)) = r) : callM 3 F_is_within [.d (.int x), .d (.int a), .d (.int b)] S = .ok (.d (.bool r)) S := callM_d (by rw [e_is_within, h])
theorem e_is_span {e n : Int} {s : Sp} (h : SpOk e n s) (S : Sto) : F_is_span [.d s.d, .d (.int e), .d (.int n)] S = .ok (.d (.bool true)) S := by
  have h1 := @c_within s.a 0 (n - 1) S true (by simp [h.a0, h.a1])
  have h2 := @c_within s.g 1 (n - 1) S true (by simp [h.g0, h.g1])
  have h3 := @c_within s.m 1 e S true (by have := h.l0; have := h.lm; have := h.me; simp; omega)
  have h4 := @c_within s.l 1 s.m S true (by have := h.l0; have := h.lm; have := h.me; simp; omega)
  have h5 : (s.a == s.g) = false := by simp [h.ne]
  simp [F_is_span, b_is_span, Sp.d, eqD, neD, eqB_int, h5, mkFn, fin, sSeq, sRet, sRetN, sIf, sNil, sExpr, sSet, sAsg, sPut, sRaise, sBrk, sCt, gNm, gTp, gsCons, gsNil, gSb, eVar, eC, eBin, op2, op2R, ofO, look, lookR, eIx, ixD, eSl, pNone, pSome, eTup, eLst, mkSeq, allD, aNil, aCons, eAnd, eOr, eNot, eNeg, eIf, eChain, asB, tOf, tTru, tNotE, tAndE, tOrE, truV, truthD, eCB, lookAll, eIsi, isiD, eCall, R.bind, R.st, R.fl, R.noX, addD, subD, cmpD, lenD, allBD, absD, intD, tupleD, divmodD, max2D, min2D, itR1, itR2, ofL, sFor, slD, eLstM, mkLoc]
  simp [h1, h2, h3, h4, h5, mkFn, fin, sSeq, sRet, sRetN, sIf, sNil, sExpr, sSet, sAsg, sPut, sRaise, sBrk, sCt, gNm, gTp, gsCons, gsNil, gSb, eVar, eC, eBin, op2, op2R, ofO, look, lookR, eIx, ixD, eSl, pNone, pSome, eTup, eLst, mkSeq, allD, aNil, aCons, eAnd, eOr, eNot, eNeg, eIf, eChain, asB, tOf, tTru, tNotE, tAndE, tOrE, truV, truthD, eCB, lookAll, eIsi, isiD, eCall, R.bind, R.st, R.fl, R.noX, addD, subD, cmpD, lenD, allBD, absD, intD, tupleD, divmodD, max2D, min2D, itR1, itR2, ofL, sFor, slD, eLstM, mkLoc]
/-! the dict of the goals -/
def knF : Nat → List (Key × D) → List Sp → List (Key × D)
  | _, acc, [] => acc
  | k, acc, s :: r => knF (k + 1) (putKD acc (.inl s.g) (.int (k : Nat))) r
theorem putKD_len (acc : List (Key × D)) (k : Key) (v : D) : (putKD acc k v).length ≤ acc.length + 1 := by
  unfold putKD; split <;> simp
theorem sbg_loop (x0 : Option Val) : ∀ (sps : List Sp) (k : Nat) (acc : List (Key × D)) (o2 o3 : Option Val), acc.length + sps.length < 1000 →
    ∃ o2' o3', forL (gTp 2 (gsCons (gNm 2) (gsCons (gNm 3) gsNil))) spans_by_goal_L1 (enumD k (sps.map Sp.d)) [x0, some (.loc 0), o2, o3] [some (.dic acc)] = .ok (.nx [x0, some (.loc 0), o2', o3']) [some (.dic (knF k acc sps))] := by
  intro sps
  induction sps with
  | nil => exact fun k acc o2 o3 _ => ⟨o2, o3, rfl⟩
  | cons s r ih =>
    intro k acc o2 o3 hl
    have hl2 := putKD_len acc (.inl s.g) (.int (k : Nat))
    simp only [List.length_cons] at hl
    obtain ⟨o2', o3', h⟩ := ih (k + 1) (putKD acc (.inl s.g) (.int (k : Nat))) (some (.d (.int (k : Nat)))) (some (.d s.d)) (by omega)
    refine ⟨o2', o3', ?_⟩
    have hz : acc.length < sizeLine := by rw [sizeLine_eq]; omega
    have hb : spans_by_goal_L1 [x0, some (.loc 0), some (.d (.int (k : Nat))), some (.d s.d)] [some (.dic acc)] = .ok (.nx [x0, some (.loc 0), some (.d (.int (k : Nat))), some (.d s.d)]) [some (.dic (putKD acc (.inl s.g) (.int (k : Nat))))] := by
      simp [spans_by_goal_L1, Sp.d, atI, ixN, setD, keyOf, hz, mkFn, fin, sSeq, sRet, sRetN, sIf, sNil, sExpr, sSet, sAsg, sPut, sRaise, sBrk, sCt, gNm, gTp, gsCons, gsNil, gSb, eVar, eC, eBin, op2, op2R, ofO, look, lookR, eIx, ixD, eSl, pNone, pSome, eTup, eLst, mkSeq, allD, aNil, aCons, eAnd, eOr, eNot, eNeg, eIf, eChain, asB, tOf, tTru, tNotE, tAndE, tOrE, truV, truthD, eCB, lookAll, eIsi, isiD, eCall, callM, lent, rebase, puts, back, isLive, R.bind, R.st, R.fl, R.noX, addD, subD, cmpD, lenD, allBD, absD, intD, tupleD, divmodD, max2D, min2D, itR1, itR2, ofL, sFor, slD, eLstM, mkLoc]
    have ht : (gTp 2 (gsCons (gNm 2) (gsCons (gNm 3) gsNil))) (.d (.tuple [.int (k : Nat), s.d])) [x0, some (.loc 0), o2, o3] [some (.dic acc)] = .ok [x0, some (.loc 0), some (.d (.int (k : Nat))), some (.d s.d)] [some (.dic acc)] := rfl
    simp only [List.map_cons, enumD, forL, ht, R.noX, R.st, hb, h, knF]
theorem e_sbg (sps : List Sp) (hl : sps.length < 1000) : F_spans_by_goal [.d (.tuple (sps.map Sp.d))] [] = .ok (.d (.dict ((knF 0 [] sps).map fun p => (keyD p.1, p.2)))) [none] := by
  obtain ⟨o2, o3, h⟩ := sbg_loop (some (.d (.tuple (sps.map Sp.d)))) sps 0 [] none none (by simpa using hl)
  refine mkFn_rt rfl (sSeq_nx (sSet_ok (v := .loc 0) (S1 := [some (.dic [])]) rfl rfl) (sSeq_nx (sFor_ok (ds := enumD 0 (sps.map Sp.d)) (S1 := [some (.dic [])]) rfl h) (sRet_ok ?_)))
  simp [eFrz, frzV, objD, mkFn, fin, sSeq, sRet, sRetN, sIf, sNil, sExpr, sSet, sAsg, sPut, sRaise, sBrk, sCt, gNm, gTp, gsCons, gsNil, gSb, eVar, eC, eBin, op2, op2R, ofO, look, lookR, eIx, ixD, eSl, pNone, pSome, eTup, eLst, mkSeq, allD, aNil, aCons, eAnd, eOr, eNot, eNeg, eIf, eChain, asB, tOf, tTru, tNotE, tAndE, tOrE, truV, truthD, eCB, lookAll, eIsi, isiD, eCall, callM, lent, rebase, puts, back, isLive, R.bind, R.st, R.fl, R.noX, addD, subD, cmpD, lenD, allBD, absD, intD, tupleD, divmodD, max2D, min2D, itR1, itR2, ofL, sFor, slD, eLstM, mkLoc]
theorem knF_keys : ∀ (sps : List Sp) (k : Nat) (acc : List (Key × D)) (ks : List Int), acc.map (·.1) = ks.map Sum.inl → (knF k acc sps).map (·.1) = ((sps.map Sp.g).foldl PyProof.Rows.step_dedup ks).map Sum.inl
  | [], k, acc, ks, h => h
  | s :: r, k, acc, ks, h => by
    simp only [knF, List.map_cons, List.foldl_cons]
    refine knF_keys r (k + 1) _ _ ?_
    rw [dedup_step]
    have e : (acc.any fun kv => decide (kv.1 = (Sum.inl s.g : Key))) = decide (s.g ∈ ks) := by
      rw [Bool.eq_iff_iff, List.any_eq_true, decide_eq_true_eq]
      constructor
      · rintro ⟨x, hx, hh⟩
        have : x.1 ∈ ks.map (Sum.inl : Int → Key) := by rw [← h]; exact List.mem_map_of_mem hx
        rw [of_decide_eq_true hh] at this
        obtain ⟨y, hy, e⟩ := List.mem_map.mp this
        cases e; exact hy
      · intro hh
        have : (Sum.inl s.g : Key) ∈ acc.map (·.1) := by rw [h]; exact List.mem_map_of_mem hh
        obtain ⟨y, hy, e⟩ := List.mem_map.mp this
        exact ⟨y, hy, by simp [e]⟩
    unfold putKD
    rw [e]
    by_cases z : s.g ∈ ks
    · rw [if_pos (decide_eq_true z), if_pos z, List.map_map, ← h]
      apply List.map_congr_left
      intro a _
      simp only [Function.comp]
      split <;> rfl
    · rw [if_neg (by simp [z]), if_neg z]; simp [h]
theorem knF_nodup : ∀ (sps : List Sp) (k : Nat) (acc : List (Key × D)), (∀ s ∈ sps, (Sum.inl s.g : Key) ∉ acc.map (·.1)) → (sps.map Sp.g).Nodup → knF k acc sps = acc ++ (sps.zipIdx k).map fun p => (Sum.inl p.1.g, .int (p.2 : Nat))
  | [], k, acc, _, _ => by simp [knF]
  | s :: r, k, acc, h, hn => by
    have h0 := h s List.mem_cons_self
    simp only [List.map_cons, List.nodup_cons] at hn
    have e : (acc.any fun kv => decide (kv.1 = (Sum.inl s.g : Key))) = false := by
      rw [List.any_eq_false]
      intro x hx hh
      exact h0 (by rw [← of_decide_eq_true hh]; exact List.mem_map_of_mem hx)
    have e2 : putKD acc (Sum.inl s.g) (.int (k : Nat)) = acc ++ [(Sum.inl s.g, .int (k : Nat))] := by unfold putKD; rw [e]; rfl
    rw [knF, e2, knF_nodup r (k + 1) _ ?_ hn.2]
    · simp
    · intro x hx
      simp only [List.map_append, List.map_cons, List.map_nil, List.mem_append, List.mem_singleton]
      rintro (z | z)
      · exact h x (List.mem_cons_of_mem _ hx) z
      · have z' : x.g = s.g := Sum.inl.inj z
        exact hn.1 (by rw [← z']; exact List.mem_map_of_mem hx)
end Law

namespace Law
open PySem DL L2
def fnd : List Sp → Nat → Int → Option (Nat × Sp)
  | [], _, _ => none
  | s :: r, k, m => if s.g = m then some (k, s) else fnd r (k + 1) m
def KD (sps : List Sp) (k : Nat) : List (D × D) := (sps.zipIdx k).map fun p => (PyData.int p.1.g, PyData.int (p.2 : Nat))
theorem KD_dget : ∀ (sps : List Sp) (k : Nat) (m : Int), dget (KD sps k) (.inl m) = (fnd sps k m).map fun p => PyData.int (p.1 : Nat)
  | [], k, m => rfl
  | s :: r, k, m => by
    have ih := KD_dget r (k + 1) m
    by_cases z : s.g = m
    · simp [KD, dget, fnd, z, keyOf]
    · simp only [fnd, if_neg z, ← ih]
      simp [KD, dget, keyOf, z]
theorem fnd_at : ∀ (sps : List Sp) (k i : Nat) (m : Int) (s : Sp), fnd sps k m = some (i, s) → k ≤ i ∧ sps[i - k]? = some s ∧ s.g = m
  | [], k, i, m, s, h => by simp [fnd] at h
  | x :: r, k, i, m, s, h => by
    unfold fnd at h
    split at h
    · cases h; exact ⟨Nat.le_refl _, by simp, by assumption⟩
    · obtain ⟨h1, h2, h3⟩ := fnd_at r (k + 1) i m s h
      refine ⟨by omega, ?_, h3⟩
      rw [show i - k = (i - (k + 1)) + 1 by omega, List.getElem?_cons_succ]; exact h2
def idx (is : List Nat) : List D := is.map fun i => PyData.int (i : Nat)
def way (sps : List Sp) : Nat → Int → List Nat
  | 0, _ => []
  | n + 1, m => match fnd sps 0 m with
    | none => []
    | some (i, s) => i :: way sps n s.a
theorem in_KD (sps : List Sp) (m : Int) : inD (.int m) (.dict (KD sps 0)) = some (.bool (fnd sps 0 m).isSome) := by
  simp only [inD, inB, keyOf, Option.map_some, KD_dget]
  cases fnd sps 0 m <;> rfl
theorem wf_loop (sps : List Sp) (hl : sps.length < 900) : ∀ (n fuel : Nat) (m : Int) (is : List Nat), n < fuel → is.length + n = sps.length + 1 →
    ∃ m', whileN way_from_T1 way_from_W2 fuel [some (.d (.tuple (sps.map Sp.d))), some (.d (.dict (KD sps 0))), some (.d (.int m)), some (.loc 0)] [some (.lst (idx is))]
      = .ok (.nx [some (.d (.tuple (sps.map Sp.d))), some (.d (.dict (KD sps 0))), m', some (.loc 0)]) [some (.lst (idx (is ++ way sps n m)))] := by
  intro n
  induction n with
  | zero =>
    intro fuel m is hf hi
    cases fuel with
    | zero => omega
    | succ fuel =>
      refine ⟨some (.d (.int m)), (whileN_f (S1 := [some (.lst (idx is))]) ?_).trans (by rw [way, List.append_nil])⟩
      have e : ¬ ((is.length : Int) ≤ (sps.length : Int)) := by omega
      cases z : (fnd sps 0 m).isSome <;> simp [way_from_T1, in_KD, z, idx, e, mkFn, fin, sSeq, sRet, sRetN, sIf, sNil, sExpr, sSet, sAsg, sPut, sRaise, sBrk, sCt, gNm, gTp, gsCons, gsNil, gSb, eVar, eC, eBin, op2, op2R, ofO, look, lookR, eIx, ixD, eSl, pNone, pSome, eTup, eLst, mkSeq, allD, aNil, aCons, eAnd, eOr, eNot, eNeg, eIf, eChain, asB, tOf, tTru, tNotE, tAndE, tOrE, truV, truthD, eCB, lookAll, eIsi, isiD, eCall, callM, lent, rebase, puts, back, isLive, R.bind, R.st, R.fl, R.noX, addD, subD, cmpD, lenD, allBD, absD, intD, tupleD, divmodD, max2D, min2D, itR1, itR2, ofL, sFor, slD, eLstM, mkLoc]
  | succ n ih =>
    intro fuel m is hf hi
    cases fuel with
    | zero => omega
    | succ fuel =>
      have e : ((is.length : Int) ≤ (sps.length : Int)) := by omega
      cases z : fnd sps 0 m with
      | none =>
        refine ⟨some (.d (.int m)), (whileN_f (S1 := [some (.lst (idx is))]) ?_).trans (by simp only [way, z, List.append_nil])⟩
        simp [way_from_T1, in_KD, z, idx, e, mkFn, fin, sSeq, sRet, sRetN, sIf, sNil, sExpr, sSet, sAsg, sPut, sRaise, sBrk, sCt, gNm, gTp, gsCons, gsNil, gSb, eVar, eC, eBin, op2, op2R, ofO, look, lookR, eIx, ixD, eSl, pNone, pSome, eTup, eLst, mkSeq, allD, aNil, aCons, eAnd, eOr, eNot, eNeg, eIf, eChain, asB, tOf, tTru, tNotE, tAndE, tOrE, truV, truthD, eCB, lookAll, eIsi, isiD, eCall, callM, lent, rebase, puts, back, isLive, R.bind, R.st, R.fl, R.noX, addD, subD, cmpD, lenD, allBD, absD, intD, tupleD, divmodD, max2D, min2D, itR1, itR2, ofL, sFor, slD, eLstM, mkLoc]
      | some p =>
        obtain ⟨i, s⟩ := p
        obtain ⟨_, h2, h3⟩ := fnd_at sps 0 i m s z
        obtain ⟨m', h⟩ := ih fuel s.a (is ++ [i]) (by omega) (by simp; omega)
        refine ⟨m', ?_⟩
        have hz : is.length < sizeLine := by rw [sizeLine_eq]; omega
        have k1 : ixD (.dict (KD sps 0)) (.int m) = some (.int (i : Nat)) := by simp [ixD, keyOf, KD_dget, z]
        have k2 : ixD (.tuple (sps.map Sp.d)) (.int (i : Nat)) = some s.d := by simp only [ixD, atI_n, List.getElem?_map]; rw [Nat.sub_zero] at h2; rw [h2]; rfl
        have k3 : ixD s.d (.int 0) = some (.int s.a) := by simp [Sp.d, ixD, atI, ixN]
        refine whileN_t (S1 := [some (.lst (idx is))]) ?_ (ρ' := [some (.d (.tuple (sps.map Sp.d))), some (.d (.dict (KD sps 0))), some (.d (.int s.a)), some (.loc 0)]) (S' := [some (.lst (idx (is ++ [i])))]) ?_ ?_
        · simp [way_from_T1, in_KD, z, idx, e, mkFn, fin, sSeq, sRet, sRetN, sIf, sNil, sExpr, sSet, sAsg, sPut, sRaise, sBrk, sCt, gNm, gTp, gsCons, gsNil, gSb, eVar, eC, eBin, op2, op2R, ofO, look, lookR, eIx, ixD, eSl, pNone, pSome, eTup, eLst, mkSeq, allD, aNil, aCons, eAnd, eOr, eNot, eNeg, eIf, eChain, asB, tOf, tTru, tNotE, tAndE, tOrE, truV, truthD, eCB, lookAll, eIsi, isiD, eCall, callM, lent, rebase, puts, back, isLive, R.bind, R.st, R.fl, R.noX, addD, subD, cmpD, lenD, allBD, absD, intD, tupleD, divmodD, max2D, min2D, itR1, itR2, ofL, sFor, slD, eLstM, mkLoc]
        · simp [way_from_W2, eApp, isLst, appL, k1, k2, k3, idx, hz, mkFn, fin, sSeq, sRet, sRetN, sIf, sNil, sExpr, sSet, sAsg, sPut, sRaise, sBrk, sCt, gNm, gTp, gsCons, gsNil, gSb, eVar, eC, eBin, op2, op2R, ofO, look, lookR, eIx, eSl, pNone, pSome, eTup, eLst, mkSeq, allD, aNil, aCons, eAnd, eOr, eNot, eNeg, eIf, eChain, asB, tOf, tTru, tNotE, tAndE, tOrE, truV, truthD, eCB, lookAll, eIsi, isiD, eCall, callM, lent, rebase, puts, back, isLive, R.bind, R.st, R.fl, R.noX, addD, subD, cmpD, lenD, allBD, absD, intD, tupleD, divmodD, max2D, min2D, itR1, itR2, ofL, sFor, slD, eLstM, mkLoc]
        · rw [h]; simp only [way, z, List.append_assoc, List.singleton_append]
theorem e_way (sps : List Sp) (hl : sps.length < 900) (m : Int) : F_way_from [.d (.tuple (sps.map Sp.d)), .d (.dict (KD sps 0)), .d (.int m)] [] = .ok (.d (.list (idx (way sps (sps.length + 1) m)))) [none] := by
  obtain ⟨m', h⟩ := wf_loop sps hl (sps.length + 1) fuelW m [] (by unfold fuelW; omega) (by simp)
  refine mkFn_rt rfl (sSeq_nx (sSet_ok (v := .loc 0) (S1 := [some (.lst (idx []))]) rfl rfl) (sSeq_nx h (sRet_ok ?_)))
  simp [eFrz, frzV, objD, mkFn, fin, sSeq, sRet, sRetN, sIf, sNil, sExpr, sSet, sAsg, sPut, sRaise, sBrk, sCt, gNm, gTp, gsCons, gsNil, gSb, eVar, eC, eBin, op2, op2R, ofO, look, lookR, eIx, ixD, eSl, pNone, pSome, eTup, eLst, mkSeq, allD, aNil, aCons, eAnd, eOr, eNot, eNeg, eIf, eChain, asB, tOf, tTru, tNotE, tAndE, tOrE, truV, truthD, eCB, lookAll, eIsi, isiD, eCall, callM, lent, rebase, puts, back, isLive, R.bind, R.st, R.fl, R.noX, addD, subD, cmpD, lenD, allBD, absD, intD, tupleD, divmodD, max2D, min2D, itR1, itR2, ofL, sFor, slD, eLstM, mkLoc]
theorem e_sbg_yes (sps : List Sp) (hl : sps.length < 900) (hn : (sps.map Sp.g).Nodup) : F_spans_by_goal [.d (.tuple (sps.map Sp.d))] [] = .ok (.d (.dict (KD sps 0))) [none] := by
  rw [e_sbg sps (by omega), knF_nodup sps 0 [] (by simp) hn]
  simp [KD, keyD]
theorem knF_len (sps : List Sp) : (knF 0 [] sps).length = (distinct (sps.map Sp.g)).length := by
  have := congrArg List.length (knF_keys sps 0 [] [] rfl)
  simpa [distinct] using this
theorem e_are (e n : Int) (sps : List Sp) (hl : sps.length ≤ 4) (ho : ∀ s ∈ sps, SpOk e n s) (r : Bool) (h0 : ¬ (sps.map Sp.g).Nodup → r = false)
    (h1 : (sps.map Sp.g).Nodup → r = (sps.map fun s => decide ((way sps (sps.length + 1) s.g).length ≤ sps.length)).all id) : ∃ S', F_are_spans [.d (.tuple (sps.map Sp.d)), .d (.int e), .d (.int n)] [] = .ok (.d (.bool r)) S' := by
  have hc : (eLc (itSeq (eVar 0)) [4] (gNm 4) tYesE are_spans_E1) [some (.d (.tuple (sps.map Sp.d))), some (.d (.int e)), some (.d (.int n)), none, none, none] [] = .ok (.d (.list (bls (sps.map fun _ => true)))) [] := by
    rw [eLc_map (S1 := []) (fun _ => .bool true) (ds := sps.map Sp.d) rfl fun d hd => ?_]
    · simp [bls]
    · obtain ⟨s, hs, rfl⟩ := List.mem_map.mp hd
      simp [are_spans_E1, callD3 (e_is_span (ho s hs) []), mkFn, fin, sSeq, sRet, sRetN, sIf, sNil, sExpr, sSet, sAsg, sPut, sRaise, sBrk, sCt, gNm, gTp, gsCons, gsNil, gSb, eVar, eC, eBin, op2, op2R, ofO, look, lookR, eIx, ixD, eSl, pNone, pSome, eTup, eLst, mkSeq, allD, aNil, aCons, eAnd, eOr, eNot, eNeg, eIf, eChain, asB, tOf, tTru, tNotE, tAndE, tOrE, truV, truthD, eCB, lookAll, eIsi, isiD, eCall, R.bind, R.st, R.fl, R.noX, addD, subD, cmpD, lenD, allBD, absD, intD, tupleD, divmodD, max2D, min2D, itR1, itR2, ofL, sFor, slD, eLstM, mkLoc]
  have hlen : ¬ ((4 : Int) < (sps.length : Int)) := by omega
  by_cases z : (sps.map Sp.g).Nodup
  · rw [h1 z]
    have hd2 : (eLcK 3 [5] (gNm 5) tYesE are_spans_E2) [some (.d (.tuple (sps.map Sp.d))), some (.d (.int e)), some (.d (.int n)), some (.d (.dict (KD sps 0))), none, none] [] = .ok (.d (.list (bls (sps.map fun s => decide ((way sps (sps.length + 1) s.g).length ≤ sps.length))))) [] := by
      rw [eLcK_map (S1 := []) (ds := sps.map fun s => .int s.g) (fun d => match d with | .int m => .bool (decide ((way sps (sps.length + 1) m).length ≤ sps.length)) | _ => .none) ?_ fun d hd => ?_]
      · simp [bls]
      · simp [itKeys, KD]
        apply List.ext_getElem?
        intro i
        simp only [List.getElem?_map, List.getElem?_zipIdx]
        cases sps[i]? <;> simp
      · obtain ⟨s, hs, rfl⟩ := List.mem_map.mp hd
        simp [are_spans_E2, callD3 (e_way sps (by omega) s.g), idx, mkFn, fin, sSeq, sRet, sRetN, sIf, sNil, sExpr, sSet, sAsg, sPut, sRaise, sBrk, sCt, gNm, gTp, gsCons, gsNil, gSb, eVar, eC, eBin, op2, op2R, ofO, look, lookR, eIx, ixD, eSl, pNone, pSome, eTup, eLst, mkSeq, allD, aNil, aCons, eAnd, eOr, eNot, eNeg, eIf, eChain, asB, tOf, tTru, tNotE, tAndE, tOrE, truV, truthD, eCB, lookAll, eIsi, isiD, eCall, R.bind, R.st, R.fl, R.noX, addD, subD, cmpD, lenD, allBD, absD, intD, tupleD, divmodD, max2D, min2D, itR1, itR2, ofL, sFor, slD, eLstM, mkLoc]
    have k1 : (KD sps 0).length = sps.length := by simp [KD]
    have k2 : ∀ bs, allBD [.list (bls bs)] = some (.bool (bs.all id)) := fun bs => by simp [allBD, blsOf_bls]
    refine ⟨[], mkFn_rt rfl (sSeq_nx (sIf_skip (S1 := []) ?_) (sSeq_nx (sIf_skip (S1 := []) ?_) (sSeq_nx (sSet_ok (v := .d (.dict (KD sps 0))) (S1 := []) ?_ rfl) (sRet_ok ?_))))⟩
    · simp [hlen, mkFn, fin, sSeq, sRet, sRetN, sIf, sNil, sExpr, sSet, sAsg, sPut, sRaise, sBrk, sCt, gNm, gTp, gsCons, gsNil, gSb, eVar, eC, eBin, op2, op2R, ofO, look, lookR, eIx, ixD, eSl, pNone, pSome, eTup, eLst, mkSeq, allD, aNil, aCons, eAnd, eOr, eNot, eNeg, eIf, eChain, asB, tOf, tTru, tNotE, tAndE, tOrE, truV, truthD, eCB, lookAll, eIsi, isiD, eCall, callM, lent, rebase, puts, back, isLive, R.bind, R.st, R.fl, R.noX, addD, subD, cmpD, lenD, allBD, absD, intD, tupleD, divmodD, max2D, min2D, itR1, itR2, ofL, sFor, slD, eLstM, mkLoc]
    · simp [hc, k2, mkFn, fin, sSeq, sRet, sRetN, sIf, sNil, sExpr, sSet, sAsg, sPut, sRaise, sBrk, sCt, gNm, gTp, gsCons, gsNil, gSb, eVar, eC, eBin, op2, op2R, ofO, look, lookR, eIx, eSl, pNone, pSome, eTup, eLst, mkSeq, allD, aNil, aCons, eAnd, eOr, eNot, eNeg, eIf, eChain, asB, tOf, tTru, tNotE, tAndE, tOrE, truV, truthD, eCB, lookAll, eIsi, isiD, eCall, R.bind, R.st, R.fl, R.noX, addD, subD, cmpD, lenD, absD, intD, tupleD, divmodD, max2D, min2D, itR1, itR2, ofL, sFor, slD, eLstM, mkLoc]
    · simp [callD1 (e_sbg_yes sps (by omega) z), mkFn, fin, sSeq, sRet, sRetN, sIf, sNil, sExpr, sSet, sAsg, sPut, sRaise, sBrk, sCt, gNm, gTp, gsCons, gsNil, gSb, eVar, eC, eBin, op2, op2R, ofO, look, lookR, eIx, ixD, eSl, pNone, pSome, eTup, eLst, mkSeq, allD, aNil, aCons, eAnd, eOr, eNot, eNeg, eIf, eChain, asB, tOf, tTru, tNotE, tAndE, tOrE, truV, truthD, eCB, lookAll, eIsi, isiD, eCall, R.bind, R.st, R.fl, R.noX, addD, subD, cmpD, lenD, allBD, absD, intD, tupleD, divmodD, max2D, min2D, itR1, itR2, ofL, sFor, slD, eLstM, mkLoc]
    · simp [hd2, k1, k2, eqD, eqB_int, mkFn, fin, sSeq, sRet, sRetN, sIf, sNil, sExpr, sSet, sAsg, sPut, sRaise, sBrk, sCt, gNm, gTp, gsCons, gsNil, gSb, eVar, eC, eBin, op2, op2R, ofO, look, lookR, eIx, eSl, pNone, pSome, eTup, eLst, mkSeq, allD, aNil, aCons, eAnd, eOr, eNot, eNeg, eIf, eChain, asB, tOf, tTru, tNotE, tAndE, tOrE, truV, truthD, eCB, lookAll, eIsi, isiD, eCall, R.bind, R.st, R.fl, R.noX, addD, subD, cmpD, lenD, absD, intD, tupleD, divmodD, max2D, min2D, itR1, itR2, ofL, sFor, slD, eLstM, mkLoc]
  · have hk : ((knF 0 [] sps).length : Int) ≠ (sps.length : Int) := by
      intro h
      apply z
      rw [← distinct_eq, ← knF_len]
      simp only [List.length_map]
      omega
    have k2 : ∀ bs, allBD [.list (bls bs)] = some (.bool (bs.all id)) := fun bs => by simp [allBD, blsOf_bls]
    rw [h0 z]
    refine ⟨[], mkFn_rt rfl (sSeq_nx (sIf_skip (S1 := []) ?_) (sSeq_nx (sIf_skip (S1 := []) ?_) (sSeq_nx (sSet_ok (v := .d (.dict ((knF 0 [] sps).map fun p => (keyD p.1, p.2)))) (S1 := []) ?_ rfl) (sRet_ok ?_))))⟩
    · simp [hlen, mkFn, fin, sSeq, sRet, sRetN, sIf, sNil, sExpr, sSet, sAsg, sPut, sRaise, sBrk, sCt, gNm, gTp, gsCons, gsNil, gSb, eVar, eC, eBin, op2, op2R, ofO, look, lookR, eIx, ixD, eSl, pNone, pSome, eTup, eLst, mkSeq, allD, aNil, aCons, eAnd, eOr, eNot, eNeg, eIf, eChain, asB, tOf, tTru, tNotE, tAndE, tOrE, truV, truthD, eCB, lookAll, eIsi, isiD, eCall, callM, lent, rebase, puts, back, isLive, R.bind, R.st, R.fl, R.noX, addD, subD, cmpD, lenD, allBD, absD, intD, tupleD, divmodD, max2D, min2D, itR1, itR2, ofL, sFor, slD, eLstM, mkLoc]
    · simp [hc, k2, mkFn, fin, sSeq, sRet, sRetN, sIf, sNil, sExpr, sSet, sAsg, sPut, sRaise, sBrk, sCt, gNm, gTp, gsCons, gsNil, gSb, eVar, eC, eBin, op2, op2R, ofO, look, lookR, eIx, eSl, pNone, pSome, eTup, eLst, mkSeq, allD, aNil, aCons, eAnd, eOr, eNot, eNeg, eIf, eChain, asB, tOf, tTru, tNotE, tAndE, tOrE, truV, truthD, eCB, lookAll, eIsi, isiD, eCall, R.bind, R.st, R.fl, R.noX, addD, subD, cmpD, lenD, absD, intD, tupleD, divmodD, max2D, min2D, itR1, itR2, ofL, sFor, slD, eLstM, mkLoc]
    · simp [callD1 (e_sbg sps (by omega)), mkFn, fin, sSeq, sRet, sRetN, sIf, sNil, sExpr, sSet, sAsg, sPut, sRaise, sBrk, sCt, gNm, gTp, gsCons, gsNil, gSb, eVar, eC, eBin, op2, op2R, ofO, look, lookR, eIx, ixD, eSl, pNone, pSome, eTup, eLst, mkSeq, allD, aNil, aCons, eAnd, eOr, eNot, eNeg, eIf, eChain, asB, tOf, tTru, tNotE, tAndE, tOrE, truV, truthD, eCB, lookAll, eIsi, isiD, eCall, R.bind, R.st, R.fl, R.noX, addD, subD, cmpD, lenD, allBD, absD, intD, tupleD, divmodD, max2D, min2D, itR1, itR2, ofL, sFor, slD, eLstM, mkLoc]
    · have hk2 : (((knF 0 [] sps).length : Int) == (sps.length : Int)) = false := by simpa using hk
      refine eAnd_f ?_
      simp [eqD, eqB_int, mkFn, fin, sSeq, sRet, sRetN, sIf, sNil, sExpr, sSet, sAsg, sPut, sRaise, sBrk, sCt, gNm, gTp, gsCons, gsNil, gSb, eVar, eC, eBin, op2, op2R, ofO, look, lookR, eIx, eSl, pNone, pSome, eTup, eLst, mkSeq, allD, aNil, aCons, eAnd, eOr, eNot, eNeg, eIf, eChain, asB, tOf, tTru, tNotE, tAndE, tOrE, truV, truthD, eCB, lookAll, eIsi, isiD, eCall, R.bind, R.st, R.fl, R.noX, addD, subD, cmpD, lenD, absD, intD, tupleD, divmodD, max2D, min2D, itR1, itR2, ofL, sFor, slD, eLstM, mkLoc]
      exact hk
end Law

namespace Law
open PySem DL L2
def bookD (e n : Int) (sps : List Sp) (bs : List D) : D := .tuple [.int e, .int n, .tuple (sps.map Sp.d), .tuple bs]
structure Bk (e n : Int) (sps : List Sp) (bs : List D) : Prop where
  e0 : 1 ≤ e
  e1 : e ≤ 60
  n0 : 2 ≤ n
  n1 : n ≤ 10
  len : sps.length ≤ 4
  ok : ∀ s ∈ sps, SpOk e n s
  bl : bs.length ≤ 30
  bo : ∀ b ∈ bs, F_is_bound [.d b, .d (.int n)] [] = .ok (.d (.bool true)) []
def rAre (sps : List Sp) : Bool := decide (sps.map Sp.g).Nodup && (sps.map fun s => decide ((way sps (sps.length + 1) s.g).length ≤ sps.length)).all id
section
variable {e n : Int} {sps : List Sp} {bs : List D}
theorem e_book (B : Bk e n sps bs) : ∃ S', F_is_book [.d (bookD e n sps bs)] [] = .ok (.d (.bool (rAre sps))) S' := by
  obtain ⟨Sx, hx⟩ := e_are e n sps B.len B.ok (rAre sps) (fun z => by simp [rAre, z]) (fun z => by simp [rAre, z])
  have h1 := @c_within e 1 60 [] true (by have := B.e0; have := B.e1; simp; omega)
  have h2 := @c_within n 1 10 [] true (by have := B.n0; have := B.n1; simp; omega)
  have hbl : ¬ ((30 : Int) < (bs.length : Int)) := by have := B.bl; omega
  have hc : (eLc (itSeq (eVar 4)) [5] (gNm 5) tYesE is_book_E1) [some (.d (bookD e n sps bs)), some (.d (.int e)), some (.d (.int n)), some (.d (.tuple (sps.map Sp.d))), some (.d (.tuple bs)), none] [] = .ok (.d (.list (bls (bs.map fun _ => true)))) [] := by
    rw [eLc_map (S1 := []) (fun _ => .bool true) (ds := bs) rfl fun d hd => ?_]
    · simp [bls]
    · simp [is_book_E1, callD2 (B.bo d hd), mkFn, fin, sSeq, sRet, sRetN, sIf, sNil, sExpr, sSet, sAsg, sPut, sRaise, sBrk, sCt, gNm, gTp, gsCons, gsNil, gSb, eVar, eC, eBin, op2, op2R, ofO, look, lookR, eIx, ixD, eSl, pNone, pSome, eTup, eLst, mkSeq, allD, aNil, aCons, eAnd, eOr, eNot, eNeg, eIf, eChain, asB, tOf, tTru, tNotE, tAndE, tOrE, truV, truthD, eCB, lookAll, eIsi, isiD, eCall, R.bind, R.st, R.fl, R.noX, addD, subD, cmpD, lenD, allBD, absD, intD, tupleD, divmodD, max2D, min2D, itR1, itR2, ofL, sFor, slD, eLstM, mkLoc]
  have k2 : ∀ bs, allBD [.list (bls bs)] = some (.bool (bs.all id)) := fun bs => by simp [allBD, blsOf_bls]
  refine ⟨[], ?_⟩
  cases hr : rAre sps with
  | false =>
    rw [hr] at hx
    refine mkFn_rt rfl (sSeq_nx (sIf_skip (S1 := []) ?_) (sSeq_nx (ρ1 := [some (.d (bookD e n sps bs)), some (.d (.int e)), some (.d (.int n)), some (.d (.tuple (sps.map Sp.d))), some (.d (.tuple bs)), none]) (S1 := []) rfl (sSeq_rt (sIf_t (S1 := []) ?_ (sRet_ok (v := .d (.bool false)) rfl)))))
    · simp [bookD, neD, eqB_int, mkFn, fin, sSeq, sRet, sRetN, sIf, sNil, sExpr, sSet, sAsg, sPut, sRaise, sBrk, sCt, gNm, gTp, gsCons, gsNil, gSb, eVar, eC, eBin, op2, op2R, ofO, look, lookR, eIx, ixD, eSl, pNone, pSome, eTup, eLst, mkSeq, allD, aNil, aCons, eAnd, eOr, eNot, eNeg, eIf, eChain, asB, tOf, tTru, tNotE, tAndE, tOrE, truV, truthD, eCB, lookAll, eIsi, isiD, eCall, callM, lent, rebase, puts, back, isLive, R.bind, R.st, R.fl, R.noX, addD, subD, cmpD, lenD, allBD, absD, intD, tupleD, divmodD, max2D, min2D, itR1, itR2, ofL, sFor, slD, eLstM, mkLoc]
    · simp [h1, h2, callD3 hx, mkFn, fin, sSeq, sRet, sRetN, sIf, sNil, sExpr, sSet, sAsg, sPut, sRaise, sBrk, sCt, gNm, gTp, gsCons, gsNil, gSb, eVar, eC, eBin, op2, op2R, ofO, look, lookR, eIx, ixD, eSl, pNone, pSome, eTup, eLst, mkSeq, allD, aNil, aCons, eAnd, eOr, eNot, eNeg, eIf, eChain, asB, tOf, tTru, tNotE, tAndE, tOrE, truV, truthD, eCB, lookAll, eIsi, isiD, eCall, R.bind, R.st, R.fl, R.noX, addD, subD, cmpD, lenD, allBD, absD, intD, tupleD, divmodD, max2D, min2D, itR1, itR2, ofL, sFor, slD, eLstM, mkLoc]
  | true =>
    rw [hr] at hx
    refine mkFn_rt rfl (sSeq_nx (sIf_skip (S1 := []) ?_) (sSeq_nx (ρ1 := [some (.d (bookD e n sps bs)), some (.d (.int e)), some (.d (.int n)), some (.d (.tuple (sps.map Sp.d))), some (.d (.tuple bs)), none]) (S1 := []) rfl (sSeq_nx (sIf_skip (S1 := []) ?_) (sSeq_nx (sIf_skip (S1 := []) ?_) (sRet_ok ?_)))))
    · simp [bookD, neD, eqB_int, mkFn, fin, sSeq, sRet, sRetN, sIf, sNil, sExpr, sSet, sAsg, sPut, sRaise, sBrk, sCt, gNm, gTp, gsCons, gsNil, gSb, eVar, eC, eBin, op2, op2R, ofO, look, lookR, eIx, ixD, eSl, pNone, pSome, eTup, eLst, mkSeq, allD, aNil, aCons, eAnd, eOr, eNot, eNeg, eIf, eChain, asB, tOf, tTru, tNotE, tAndE, tOrE, truV, truthD, eCB, lookAll, eIsi, isiD, eCall, callM, lent, rebase, puts, back, isLive, R.bind, R.st, R.fl, R.noX, addD, subD, cmpD, lenD, allBD, absD, intD, tupleD, divmodD, max2D, min2D, itR1, itR2, ofL, sFor, slD, eLstM, mkLoc]
    · simp [h1, h2, callD3 hx, mkFn, fin, sSeq, sRet, sRetN, sIf, sNil, sExpr, sSet, sAsg, sPut, sRaise, sBrk, sCt, gNm, gTp, gsCons, gsNil, gSb, eVar, eC, eBin, op2, op2R, ofO, look, lookR, eIx, ixD, eSl, pNone, pSome, eTup, eLst, mkSeq, allD, aNil, aCons, eAnd, eOr, eNot, eNeg, eIf, eChain, asB, tOf, tTru, tNotE, tAndE, tOrE, truV, truthD, eCB, lookAll, eIsi, isiD, eCall, R.bind, R.st, R.fl, R.noX, addD, subD, cmpD, lenD, allBD, absD, intD, tupleD, divmodD, max2D, min2D, itR1, itR2, ofL, sFor, slD, eLstM, mkLoc]
    · simp [hbl, mkFn, fin, sSeq, sRet, sRetN, sIf, sNil, sExpr, sSet, sAsg, sPut, sRaise, sBrk, sCt, gNm, gTp, gsCons, gsNil, gSb, eVar, eC, eBin, op2, op2R, ofO, look, lookR, eIx, ixD, eSl, pNone, pSome, eTup, eLst, mkSeq, allD, aNil, aCons, eAnd, eOr, eNot, eNeg, eIf, eChain, asB, tOf, tTru, tNotE, tAndE, tOrE, truV, truthD, eCB, lookAll, eIsi, isiD, eCall, callM, lent, rebase, puts, back, isLive, R.bind, R.st, R.fl, R.noX, addD, subD, cmpD, lenD, allBD, absD, intD, tupleD, divmodD, max2D, min2D, itR1, itR2, ofL, sFor, slD, eLstM, mkLoc]
    · simp [hc, k2, mkFn, fin, sSeq, sRet, sRetN, sIf, sNil, sExpr, sSet, sAsg, sPut, sRaise, sBrk, sCt, gNm, gTp, gsCons, gsNil, gSb, eVar, eC, eBin, op2, op2R, ofO, look, lookR, eIx, eSl, pNone, pSome, eTup, eLst, mkSeq, allD, aNil, aCons, eAnd, eOr, eNot, eNeg, eIf, eChain, asB, tOf, tTru, tNotE, tAndE, tOrE, truV, truthD, eCB, lookAll, eIsi, isiD, eCall, R.bind, R.st, R.fl, R.noX, addD, subD, cmpD, lenD, absD, intD, tupleD, divmodD, max2D, min2D, itR1, itR2, ofL, sFor, slD, eLstM, mkLoc]
theorem e_check_no (B : Bk e n sps bs) (hr : rAre sps = false) : F_check_book [.d (bookD e n sps bs)] [] = .exc ⟨"NoBook"⟩ [] := by
  obtain ⟨S', h⟩ := e_book B
  rw [hr] at h
  refine mkFn_ex rfl (ρ1 := [some (.d (bookD e n sps bs))]) (sIf_t (S1 := []) ?_ rfl)
  simp [callD1 h, mkFn, fin, sSeq, sRet, sRetN, sIf, sNil, sExpr, sSet, sAsg, sPut, sRaise, sBrk, sCt, gNm, gTp, gsCons, gsNil, gSb, eVar, eC, eBin, op2, op2R, ofO, look, lookR, eIx, ixD, eSl, pNone, pSome, eTup, eLst, mkSeq, allD, aNil, aCons, eAnd, eOr, eNot, eNeg, eIf, eChain, asB, tOf, tTru, tNotE, tAndE, tOrE, truV, truthD, eCB, lookAll, eIsi, isiD, eCall, R.bind, R.st, R.fl, R.noX, addD, subD, cmpD, lenD, allBD, absD, intD, tupleD, divmodD, max2D, min2D, itR1, itR2, ofL, sFor, slD, eLstM, mkLoc]
theorem e_check_yes (B : Bk e n sps bs) (hr : rAre sps = true) : F_check_book [.d (bookD e n sps bs)] [] = .ok (.d .none) [] := by
  obtain ⟨S', h⟩ := e_book B
  rw [hr] at h
  refine mkFn_nx rfl (ρ1 := [some (.d (bookD e n sps bs))]) (sIf_skip (S1 := []) ?_)
  simp [callD1 h, mkFn, fin, sSeq, sRet, sRetN, sIf, sNil, sExpr, sSet, sAsg, sPut, sRaise, sBrk, sCt, gNm, gTp, gsCons, gsNil, gSb, eVar, eC, eBin, op2, op2R, ofO, look, lookR, eIx, ixD, eSl, pNone, pSome, eTup, eLst, mkSeq, allD, aNil, aCons, eAnd, eOr, eNot, eNeg, eIf, eChain, asB, tOf, tTru, tNotE, tAndE, tOrE, truV, truthD, eCB, lookAll, eIsi, isiD, eCall, R.bind, R.st, R.fl, R.noX, addD, subD, cmpD, lenD, allBD, absD, intD, tupleD, divmodD, max2D, min2D, itR1, itR2, ofL, sFor, slD, eLstM, mkLoc]
theorem e_refused (B : Bk e n sps bs) (hr : rAre sps = false) : F__law_refused [.d (bookD e n sps bs)] [] = .ok (.d (.bool true)) [] := by
  have h1 : F_chosen [.d (bookD e n sps bs)] [] = .exc ⟨"NoBook"⟩ [] := mkFn_ex rfl (ρ1 := [some (.d (bookD e n sps bs)), none, none]) (sSeq_ex (sExpr_x (by simp [callX1 (e_check_no B hr), mkFn, fin, sSeq, sRet, sRetN, sIf, sNil, sExpr, sSet, sAsg, sPut, sRaise, sBrk, sCt, gNm, gTp, gsCons, gsNil, gSb, eVar, eC, eBin, op2, op2R, ofO, look, lookR, eIx, ixD, eSl, pNone, pSome, eTup, eLst, mkSeq, allD, aNil, aCons, eAnd, eOr, eNot, eNeg, eIf, eChain, asB, tOf, tTru, tNotE, tAndE, tOrE, truV, truthD, eCB, lookAll, eIsi, isiD, eCall, R.bind, R.st, R.fl, R.noX, addD, subD, cmpD, lenD, allBD, absD, intD, tupleD, divmodD, max2D, min2D, itR1, itR2, ofL, sFor, slD, eLstM, mkLoc])))
  have h2 : F_show_book [.d (bookD e n sps bs)] [] = .exc ⟨"NoBook"⟩ [] := mkFn_ex rfl (ρ1 := [some (.d (bookD e n sps bs)), none, none, none, none, none, none]) (sSeq_ex (sExpr_x (by simp [callX1 (e_check_no B hr), mkFn, fin, sSeq, sRet, sRetN, sIf, sNil, sExpr, sSet, sAsg, sPut, sRaise, sBrk, sCt, gNm, gTp, gsCons, gsNil, gSb, eVar, eC, eBin, op2, op2R, ofO, look, lookR, eIx, ixD, eSl, pNone, pSome, eTup, eLst, mkSeq, allD, aNil, aCons, eAnd, eOr, eNot, eNeg, eIf, eChain, asB, tOf, tTru, tNotE, tAndE, tOrE, truV, truthD, eCB, lookAll, eIsi, isiD, eCall, R.bind, R.st, R.fl, R.noX, addD, subD, cmpD, lenD, allBD, absD, intD, tupleD, divmodD, max2D, min2D, itR1, itR2, ofL, sFor, slD, eLstM, mkLoc])))
  have m1 : mTab [("NoBook", true)] "NoBook" = some true := by simp [mTab]
  simp [F__law_refused, b__law_refused, sTry, noEx, callX1 h1, callX1 h2, m1, eqD, eqB_int, mkFn, fin, sSeq, sRet, sRetN, sIf, sNil, sExpr, sSet, sAsg, sPut, sRaise, sBrk, sCt, gNm, gTp, gsCons, gsNil, gSb, eVar, eC, eBin, op2, op2R, ofO, look, lookR, eIx, ixD, eSl, pNone, pSome, eTup, eLst, mkSeq, allD, aNil, aCons, eAnd, eOr, eNot, eNeg, eIf, eChain, asB, tOf, tTru, tNotE, tAndE, tOrE, truV, truthD, eCB, lookAll, eIsi, isiD, eCall, R.bind, R.st, R.fl, R.noX, addD, subD, cmpD, lenD, allBD, absD, intD, tupleD, divmodD, max2D, min2D, itR1, itR2, ofL, sFor, slD, eLstM, mkLoc]
/-! the root -/
def rootM (sps : List Sp) : Nat → Int → Option Int
  | 0, _ => none
  | k + 1, m => match fnd sps 0 m with
    | none => some m
    | some (_, s) => rootM sps k s.a
def endW (sps : List Sp) : Nat → Int → Int
  | 0, m => m
  | k + 1, m => match fnd sps 0 m with
    | none => m
    | some (_, s) => endW sps k s.a
theorem root_end : ∀ (k : Nat) (m x : Int), rootM sps k m = some x → endW sps k m = x ∧ (way sps k m).length < k
  | 0, m, x, h => by simp [rootM] at h
  | k + 1, m, x, h => by
    unfold rootM at h
    cases z : fnd sps 0 m with
    | none => simp only [z] at h; cases h; simp [endW, way, z]
    | some p => simp only [z] at h; have := root_end k _ x h; simp [endW, way, z, this]
theorem root_none : ∀ (k : Nat) (m : Int), rootM sps k m = none → (way sps k m).length = k
  | 0, m, h => rfl
  | k + 1, m, h => by
    unfold rootM at h
    cases z : fnd sps 0 m with
    | none => simp [z] at h
    | some p => simp only [z] at h; simp [way, z, root_none k _ h]
theorem way_le (m : Int) : decide ((way sps (sps.length + 1) m).length ≤ sps.length) = (rootM sps (sps.length + 1) m).isSome := by
  cases z : rootM sps (sps.length + 1) m with
  | none => have := root_none _ _ z; simp; omega
  | some x => have := (root_end _ _ _ z).2; simp; omega
theorem fnd_none : ∀ (sps : List Sp) (k : Nat) (m : Int), fnd sps k m = none ↔ m ∉ sps.map Sp.g
  | [], k, m => by simp [fnd]
  | s :: r, k, m => by
    have ih := fnd_none r (k + 1) m
    by_cases z : s.g = m
    · simp [fnd, z]
    · have z' : ¬ m = s.g := fun h => z h.symm
      simp [fnd, z, z', ih]
theorem fnd_filter : ∀ (sps : List Sp) (k : Nat) (m : Int), (sps.filter fun s => s.g == m).head? = (fnd sps k m).map (·.2)
  | [], k, m => rfl
  | s :: r, k, m => by
    have ih := fnd_filter r (k + 1) m
    by_cases z : s.g = m <;> simp [fnd, z, ih]
end
end Law

namespace Law
open PySem DL L2
section
variable {e n : Int} {sps : List Sp} {bs : List D}
def rd : Option Int → D
  | none => .none
  | some x => .int x
def isG (m : Int) : D → Bool
  | .tuple [_, .int g, _, _] => g == m
  | _ => false
def fstD : D → D
  | .tuple (x :: _) => x
  | _ => .none
theorem ahead_ok (m : Int) (o2 o3 o4 : Option Val) : (eLc (itSeq (eVar 0)) [4] (gNm 4) m_law_root_I1 m_law_root_E2) [some (.d (.tuple (sps.map Sp.d))), some (.d (.int m)), o2, o3, o4] [] = .ok (.d (.list (intl ((sps.filter fun s => s.g == m).map Sp.a)))) [] := by
  rw [eLc_if (S1 := []) (isG m) fstD (ds := sps.map Sp.d) rfl (fun d hd => ?_) (fun d hd _ => ?_)]
  · congr 3
    rw [List.filter_map, List.map_map, intl, List.map_map]
    rfl
  · obtain ⟨s, hs, rfl⟩ := List.mem_map.mp hd
    simp [m_law_root_I1, isG, Sp.d, eqD, eqB_int, atI, ixN, mkFn, fin, sSeq, sRet, sRetN, sIf, sNil, sExpr, sSet, sAsg, sPut, sRaise, sBrk, sCt, gNm, gTp, gsCons, gsNil, gSb, eVar, eC, eBin, op2, op2R, ofO, look, lookR, eIx, ixD, eSl, pNone, pSome, eTup, eLst, mkSeq, allD, aNil, aCons, eAnd, eOr, eNot, eNeg, eIf, eChain, asB, tOf, tTru, tNotE, tAndE, tOrE, truV, truthD, eCB, lookAll, eIsi, isiD, eCall, callM, lent, rebase, puts, back, isLive, R.bind, R.st, R.fl, R.noX, addD, subD, cmpD, lenD, allBD, absD, intD, tupleD, divmodD, max2D, min2D, itR1, itR2, ofL, sFor, slD, eLstM, mkLoc]
  · obtain ⟨s, hs, rfl⟩ := List.mem_map.mp hd
    simp [m_law_root_E2, fstD, Sp.d, atI, ixN, mkFn, fin, sSeq, sRet, sRetN, sIf, sNil, sExpr, sSet, sAsg, sPut, sRaise, sBrk, sCt, gNm, gTp, gsCons, gsNil, gSb, eVar, eC, eBin, op2, op2R, ofO, look, lookR, eIx, ixD, eSl, pNone, pSome, eTup, eLst, mkSeq, allD, aNil, aCons, eAnd, eOr, eNot, eNeg, eIf, eChain, asB, tOf, tTru, tNotE, tAndE, tOrE, truV, truthD, eCB, lookAll, eIsi, isiD, eCall, callM, lent, rebase, puts, back, isLive, R.bind, R.st, R.fl, R.noX, addD, subD, cmpD, lenD, allBD, absD, intD, tupleD, divmodD, max2D, min2D, itR1, itR2, ofL, sFor, slD, eLstM, mkLoc]
theorem lroot_loop : ∀ (ds : List D) (m : Int) (o2 o3 o4 : Option Val),
    match rootM sps ds.length m with
    | some x => forL (gNm 2) m_law_root_L3 ds [some (.d (.tuple (sps.map Sp.d))), some (.d (.int m)), o2, o3, o4] [] = .ok (.rt (.d (.int x))) []
    | none => ∃ ρ', forL (gNm 2) m_law_root_L3 ds [some (.d (.tuple (sps.map Sp.d))), some (.d (.int m)), o2, o3, o4] [] = .ok (.nx ρ') [] := by
  intro ds
  induction ds with
  | nil => exact fun m o2 o3 o4 => ⟨_, rfl⟩
  | cons d ds ih =>
    intro m o2 o3 o4
    have ha := ahead_ok (sps := sps) m (some (.d d)) o3 o4
    have hf := fnd_filter sps 0 m
    cases z : fnd sps 0 m with
    | none =>
      have e0 : (sps.filter fun s => s.g == m) = [] := by rw [z] at hf; exact List.head?_eq_none_iff.mp hf
      rw [e0] at ha
      simp only [List.length_cons, rootM, z]
      have hb : m_law_root_L3 [some (.d (.tuple (sps.map Sp.d))), some (.d (.int m)), some (.d d), o3, o4] [] = .ok (.rt (.d (.int m))) [] := by
        refine sSeq_nx (sSet_ok ha rfl) (sSeq_rt (sIf_t (S1 := []) ?_ (sRet_ok rfl)))
        have q : eqB (.list []) (.list []) = some true := eqB_nil []
        simp [eqD, intl, q, mkFn, fin, sSeq, sRet, sRetN, sIf, sNil, sExpr, sSet, sAsg, sPut, sRaise, sBrk, sCt, gNm, gTp, gsCons, gsNil, gSb, eVar, eC, eBin, op2, op2R, ofO, look, lookR, eIx, ixD, eSl, pNone, pSome, eTup, eLst, mkSeq, allD, aNil, aCons, eAnd, eOr, eNot, eNeg, eIf, eChain, asB, tOf, tTru, tNotE, tAndE, tOrE, truV, truthD, eCB, lookAll, eIsi, isiD, eCall, callM, lent, rebase, puts, back, isLive, R.bind, R.st, R.fl, R.noX, addD, subD, cmpD, lenD, allBD, absD, intD, tupleD, divmodD, max2D, min2D, itR1, itR2, ofL, sFor, slD, eLstM, mkLoc]
      simp only [forL, gNm, R.noX, R.st, List.set_cons_succ, List.set_cons_zero, hb]
    | some p =>
      obtain ⟨i, s⟩ := p
      obtain ⟨r, e0⟩ : ∃ r, (sps.filter fun s => s.g == m) = s :: r := by
        rw [z] at hf
        cases q : (sps.filter fun s => s.g == m) with
        | nil => rw [q] at hf; simp at hf
        | cons x y => rw [q] at hf; simp at hf; subst hf; exact ⟨y, rfl⟩
      rw [e0] at ha
      simp only [List.length_cons, rootM, z]
      have hb : m_law_root_L3 [some (.d (.tuple (sps.map Sp.d))), some (.d (.int m)), some (.d d), o3, o4] [] = .ok (.nx [some (.d (.tuple (sps.map Sp.d))), some (.d (.int s.a)), some (.d d), some (.d (.list (intl (s.a :: r.map Sp.a)))), o4]) [] := by
        refine sSeq_nx (sSet_ok ha rfl) (sSeq_nx (sIf_skip (S1 := []) ?_) (sSet_ok (v := .d (.int s.a)) ?_ rfl))
        · simp [eqD, eqB_nil (s.a :: r.map Sp.a), mkFn, fin, sSeq, sRet, sRetN, sIf, sNil, sExpr, sSet, sAsg, sPut, sRaise, sBrk, sCt, gNm, gTp, gsCons, gsNil, gSb, eVar, eC, eBin, op2, op2R, ofO, look, lookR, eIx, ixD, eSl, pNone, pSome, eTup, eLst, mkSeq, allD, aNil, aCons, eAnd, eOr, eNot, eNeg, eIf, eChain, asB, tOf, tTru, tNotE, tAndE, tOrE, truV, truthD, eCB, lookAll, eIsi, isiD, eCall, callM, lent, rebase, puts, back, isLive, R.bind, R.st, R.fl, R.noX, addD, subD, cmpD, lenD, allBD, absD, intD, tupleD, divmodD, max2D, min2D, itR1, itR2, ofL, sFor, slD, eLstM, mkLoc]
        · simp [atI, ixN, intl, mkFn, fin, sSeq, sRet, sRetN, sIf, sNil, sExpr, sSet, sAsg, sPut, sRaise, sBrk, sCt, gNm, gTp, gsCons, gsNil, gSb, eVar, eC, eBin, op2, op2R, ofO, look, lookR, eIx, ixD, eSl, pNone, pSome, eTup, eLst, mkSeq, allD, aNil, aCons, eAnd, eOr, eNot, eNeg, eIf, eChain, asB, tOf, tTru, tNotE, tAndE, tOrE, truV, truthD, eCB, lookAll, eIsi, isiD, eCall, callM, lent, rebase, puts, back, isLive, R.bind, R.st, R.fl, R.noX, addD, subD, cmpD, lenD, allBD, absD, intD, tupleD, divmodD, max2D, min2D, itR1, itR2, ofL, sFor, slD, eLstM, mkLoc]
      have := ih s.a (some (.d d)) (some (.d (.list (intl (s.a :: r.map Sp.a))))) o4
      cases q : rootM sps ds.length s.a with
      | none =>
        rw [q] at this
        obtain ⟨ρ', h⟩ := this
        exact ⟨ρ', forN_cons rfl hb h⟩
      | some x =>
        rw [q] at this
        exact forN_cons rfl hb this
theorem e_lroot (hl : sps.length ≤ 4) (m : Int) : F__law_root [.d (.tuple (sps.map Sp.d)), .d (.int m)] [] = .ok (.d (rd (rootM sps (sps.length + 1) m))) [] := by
  have h := lroot_loop (sps := sps) (rangeD 0 (sps.length + 1)) m none none none
  have hr : (itR1 (aCons (eBin addD (eCB lenD (aCons (eVar 0) aNil)) (eC (.int 1))) aNil)) [some (.d (.tuple (sps.map Sp.d))), some (.d (.int m)), none, none, none] [] = .ok (rangeD 0 (sps.length + 1)) [] := by
    obtain ⟨L, hL⟩ : ∃ L : Int, L = sps.length := ⟨_, rfl⟩
    have h1 : lenD [.tuple (sps.map Sp.d)] = some (.int L) := by rw [hL]; simp [lenD]
    have h2 : rgI 0 (L + 1) = some (rangeD 0 (sps.length + 1)) := by
      rw [rgI_ok (by omega) (by omega) (by omega) (by omega), show (L + 1 - 0).toNat = sps.length + 1 by omega]
    exact itR1_ok (eBin_ok (eCB1_ok rfl h1) rfl rfl) h2
  have e0 : (rangeD 0 (sps.length + 1)).length = sps.length + 1 := by simp [rangeD]
  rw [e0] at h
  cases z : rootM sps (sps.length + 1) m with
  | some x =>
    rw [z] at h
    exact mkFn_rt rfl (sSeq_rt (sFor_ok hr h))
  | none =>
    rw [z] at h
    obtain ⟨ρ', h⟩ := h
    exact mkFn_rt rfl (sSeq_nx (sFor_ok hr h) (sRet_ok rfl))
theorem e_froms (hl : sps.length ≤ 4) (hn : (sps.map Sp.g).Nodup) : F_froms [.d (bookD e n sps bs)] [] = .ok (.d (.dict (KD sps 0))) [] := by
  refine mkFn_rt rfl (sRet_ok ?_)
  simp [bookD, atI, ixN, callD1 (e_sbg_yes sps (by omega) hn), mkFn, fin, sSeq, sRet, sRetN, sIf, sNil, sExpr, sSet, sAsg, sPut, sRaise, sBrk, sCt, gNm, gTp, gsCons, gsNil, gSb, eVar, eC, eBin, op2, op2R, ofO, look, lookR, eIx, ixD, eSl, pNone, pSome, eTup, eLst, mkSeq, allD, aNil, aCons, eAnd, eOr, eNot, eNeg, eIf, eChain, asB, tOf, tTru, tNotE, tAndE, tOrE, truV, truthD, eCB, lookAll, eIsi, isiD, eCall, R.bind, R.st, R.fl, R.noX, addD, subD, cmpD, lenD, allBD, absD, intD, tupleD, divmodD, max2D, min2D, itR1, itR2, ofL, sFor, slD, eLstM, mkLoc]
theorem e_ways (hl : sps.length ≤ 4) (hn : (sps.map Sp.g).Nodup) (n0 : 0 ≤ n) (n1 : n ≤ 10) : F_ways_of [.d (bookD e n sps bs)] [] = .ok (.d (.list ((List.range n.toNat).map fun (i : Nat) => .list (idx (way sps (sps.length + 1) (i : Int)))))) [] := by
  have hr : (itR1 (aCons (eIx (eVar 0) (eC (.int 1))) aNil)) [some (.d (bookD e n sps bs)), some (.d (.dict (KD sps 0))), none] [] = .ok (rangeD 0 n.toNat) [] := by
    have : rgI 0 n = some (rangeD 0 n.toNat) := by rw [rgI_ok (by omega) (by omega) (by omega) (by omega), show (n - 0).toNat = n.toNat by omega]
    simp [bookD, atI, ixN, this, mkFn, fin, sSeq, sRet, sRetN, sIf, sNil, sExpr, sSet, sAsg, sPut, sRaise, sBrk, sCt, gNm, gTp, gsCons, gsNil, gSb, eVar, eC, eBin, op2, op2R, ofO, look, lookR, eIx, ixD, eSl, pNone, pSome, eTup, eLst, mkSeq, allD, aNil, aCons, eAnd, eOr, eNot, eNeg, eIf, eChain, asB, tOf, tTru, tNotE, tAndE, tOrE, truV, truthD, eCB, lookAll, eIsi, isiD, eCall, callM, lent, rebase, puts, back, isLive, R.bind, R.st, R.fl, R.noX, addD, subD, cmpD, lenD, allBD, absD, intD, tupleD, divmodD, max2D, min2D, itR1, itR2, ofL, sFor, slD, eLstM, mkLoc]
  refine mkFn_rt rfl (sSeq_nx (sSet_ok (v := .d (.dict (KD sps 0))) (S1 := []) (by simp [callD1 (e_froms hl hn), mkFn, fin, sSeq, sRet, sRetN, sIf, sNil, sExpr, sSet, sAsg, sPut, sRaise, sBrk, sCt, gNm, gTp, gsCons, gsNil, gSb, eVar, eC, eBin, op2, op2R, ofO, look, lookR, eIx, ixD, eSl, pNone, pSome, eTup, eLst, mkSeq, allD, aNil, aCons, eAnd, eOr, eNot, eNeg, eIf, eChain, asB, tOf, tTru, tNotE, tAndE, tOrE, truV, truthD, eCB, lookAll, eIsi, isiD, eCall, R.bind, R.st, R.fl, R.noX, addD, subD, cmpD, lenD, allBD, absD, intD, tupleD, divmodD, max2D, min2D, itR1, itR2, ofL, sFor, slD, eLstM, mkLoc]) rfl) (sRet_ok ?_))
  refine (eLc_map (S1 := []) (fun d => match d with | .int m => .list (idx (way sps (sps.length + 1) m)) | _ => .none) hr fun d hd => ?_).trans ?_
  case refine_2 => simp [rangeD]
  · simp only [rangeD, List.mem_map] at hd
    obtain ⟨i, _, rfl⟩ := hd
    simp [ways_of_E1, bookD, atI, ixN, callD3 (e_way sps (by omega) _), mkFn, fin, sSeq, sRet, sRetN, sIf, sNil, sExpr, sSet, sAsg, sPut, sRaise, sBrk, sCt, gNm, gTp, gsCons, gsNil, gSb, eVar, eC, eBin, op2, op2R, ofO, look, lookR, eIx, ixD, eSl, pNone, pSome, eTup, eLst, mkSeq, allD, aNil, aCons, eAnd, eOr, eNot, eNeg, eIf, eChain, asB, tOf, tTru, tNotE, tAndE, tOrE, truV, truthD, eCB, lookAll, eIsi, isiD, eCall, R.bind, R.st, R.fl, R.noX, addD, subD, cmpD, lenD, allBD, absD, intD, tupleD, divmodD, max2D, min2D, itR1, itR2, ofL, sFor, slD, eLstM, mkLoc]
theorem root_loop : ∀ (k : Nat) (m : Int) (o : Option Val), ∃ o', forL (gNm 2) root_L1 (idx (way sps k m)) [some (.d (bookD e n sps bs)), some (.d (.int m)), o] [] = .ok (.nx [some (.d (bookD e n sps bs)), some (.d (.int (endW sps k m))), o']) [] := by
  intro k
  induction k with
  | zero => exact fun m o => ⟨o, rfl⟩
  | succ k ih =>
    intro m o
    cases z : fnd sps 0 m with
    | none => simp only [way, endW, z]; exact ⟨o, rfl⟩
    | some p =>
      obtain ⟨i, s⟩ := p
      obtain ⟨_, h2, h3⟩ := fnd_at sps 0 i m s z
      rw [Nat.sub_zero] at h2
      obtain ⟨o', h⟩ := ih s.a (some (.d (.int (i : Nat))))
      simp only [way, endW, z]
      have k2 : ixD (.tuple (sps.map Sp.d)) (.int (i : Nat)) = some s.d := by simp only [ixD, atI_n, List.getElem?_map]; rw [h2]; rfl
      have k1 : ixD (bookD e n sps bs) (.int 2) = some (.tuple (sps.map Sp.d)) := by simp [ixD, bookD, atI, ixN]
      have k3 : ixD s.d (.int 0) = some (.int s.a) := by simp [Sp.d, ixD, atI, ixN]
      refine ⟨o', forN_cons rfl (sSet_ok (v := .d (.int s.a)) (S1 := []) ?_ rfl) h⟩
      simp [k1, k2, k3, mkFn, fin, sSeq, sRet, sRetN, sIf, sNil, sExpr, sSet, sAsg, sPut, sRaise, sBrk, sCt, gNm, gTp, gsCons, gsNil, gSb, eVar, eC, eBin, op2, op2R, ofO, look, lookR, eIx, eSl, pNone, pSome, eTup, eLst, mkSeq, allD, aNil, aCons, eAnd, eOr, eNot, eNeg, eIf, eChain, asB, tOf, tTru, tNotE, tAndE, tOrE, truV, truthD, eCB, lookAll, eIsi, isiD, eCall, callM, lent, rebase, puts, back, isLive, R.bind, R.st, R.fl, R.noX, addD, subD, cmpD, lenD, allBD, absD, intD, tupleD, divmodD, max2D, min2D, itR1, itR2, ofL, sFor, slD, eLstM, mkLoc]
theorem e_root (B : Bk e n sps bs) (hr : rAre sps = true) (m : Nat) (hm : (m : Int) < n) : F_root [.d (bookD e n sps bs), .d (.int (m : Nat))] [] = .ok (.d (.int (endW sps (sps.length + 1) (m : Nat)))) [] := by
  have hn : (sps.map Sp.g).Nodup := by simp only [rAre, Bool.and_eq_true, decide_eq_true_eq] at hr; exact hr.1
  obtain ⟨o', h⟩ := root_loop (e := e) (n := n) (sps := sps) (bs := bs) (sps.length + 1) (m : Int) none
  have hk : F_check_mark [.d (bookD e n sps bs), .d (.int (m : Nat))] [] = .ok (.d .none) [] := by
    refine mkFn_nx rfl (ρ1 := [some (.d (bookD e n sps bs)), some (.d (.int (m : Nat)))]) (sIf_skip (S1 := []) ?_)
    have h1 := @c_within (m : Int) 0 (n - 1) [] true (by simp; omega)
    simp [bookD, atI, ixN, h1, mkFn, fin, sSeq, sRet, sRetN, sIf, sNil, sExpr, sSet, sAsg, sPut, sRaise, sBrk, sCt, gNm, gTp, gsCons, gsNil, gSb, eVar, eC, eBin, op2, op2R, ofO, look, lookR, eIx, ixD, eSl, pNone, pSome, eTup, eLst, mkSeq, allD, aNil, aCons, eAnd, eOr, eNot, eNeg, eIf, eChain, asB, tOf, tTru, tNotE, tAndE, tOrE, truV, truthD, eCB, lookAll, eIsi, isiD, eCall, R.bind, R.st, R.fl, R.noX, addD, subD, cmpD, lenD, allBD, absD, intD, tupleD, divmodD, max2D, min2D, itR1, itR2, ofL, sFor, slD, eLstM, mkLoc]
  have hi : (itSeq (eIx (eCall 1 F_ways_of (aCons (eVar 0) aNil)) (eVar 1))) [some (.d (bookD e n sps bs)), some (.d (.int (m : Nat))), none] [] = .ok (idx (way sps (sps.length + 1) (m : Nat))) [] := by
    have k1 : ixD (.list ((List.range n.toNat).map fun (i : Nat) => .list (idx (way sps (sps.length + 1) (i : Int))))) (.int (m : Nat)) = some (.list (idx (way sps (sps.length + 1) (m : Nat)))) := by
      simp only [ixD, atI_n, List.getElem?_map]
      rw [List.getElem?_range (by omega)]; rfl
    simp [itSeq, callD1 (e_ways B.len hn (by have := B.n0; omega) B.n1), k1, mkFn, fin, sSeq, sRet, sRetN, sIf, sNil, sExpr, sSet, sAsg, sPut, sRaise, sBrk, sCt, gNm, gTp, gsCons, gsNil, gSb, eVar, eC, eBin, op2, op2R, ofO, look, lookR, eIx, eSl, pNone, pSome, eTup, eLst, mkSeq, allD, aNil, aCons, eAnd, eOr, eNot, eNeg, eIf, eChain, asB, tOf, tTru, tNotE, tAndE, tOrE, truV, truthD, eCB, lookAll, eIsi, isiD, eCall, R.bind, R.st, R.fl, R.noX, addD, subD, cmpD, lenD, absD, intD, tupleD, divmodD, max2D, min2D, itR1, itR2, ofL, sFor, slD, eLstM, mkLoc]
  exact mkFn_rt rfl (sSeq_nx (sExpr_ok (v := .d .none) (S1 := []) (by simp [callD1 (e_check_yes B hr), mkFn, fin, sSeq, sRet, sRetN, sIf, sNil, sExpr, sSet, sAsg, sPut, sRaise, sBrk, sCt, gNm, gTp, gsCons, gsNil, gSb, eVar, eC, eBin, op2, op2R, ofO, look, lookR, eIx, ixD, eSl, pNone, pSome, eTup, eLst, mkSeq, allD, aNil, aCons, eAnd, eOr, eNot, eNeg, eIf, eChain, asB, tOf, tTru, tNotE, tAndE, tOrE, truV, truthD, eCB, lookAll, eIsi, isiD, eCall, R.bind, R.st, R.fl, R.noX, addD, subD, cmpD, lenD, allBD, absD, intD, tupleD, divmodD, max2D, min2D, itR1, itR2, ofL, sFor, slD, eLstM, mkLoc])) (sSeq_nx (sExpr_ok (v := .d .none) (S1 := []) (by simp [callD2 hk, mkFn, fin, sSeq, sRet, sRetN, sIf, sNil, sExpr, sSet, sAsg, sPut, sRaise, sBrk, sCt, gNm, gTp, gsCons, gsNil, gSb, eVar, eC, eBin, op2, op2R, ofO, look, lookR, eIx, ixD, eSl, pNone, pSome, eTup, eLst, mkSeq, allD, aNil, aCons, eAnd, eOr, eNot, eNeg, eIf, eChain, asB, tOf, tTru, tNotE, tAndE, tOrE, truV, truthD, eCB, lookAll, eIsi, isiD, eCall, R.bind, R.st, R.fl, R.noX, addD, subD, cmpD, lenD, allBD, absD, intD, tupleD, divmodD, max2D, min2D, itR1, itR2, ofL, sFor, slD, eLstM, mkLoc])) (sSeq_nx (sFor_ok hi h) (sRet_ok rfl))))
end
end Law

namespace Law
open PySem DL L2
section
variable {e n : Int} {sps : List Sp} {bs : List D}
theorem rAre_eq : rAre sps = (decide (sps.map Sp.g).Nodup && sps.all fun s => (rootM sps (sps.length + 1) s.g).isSome) := by
  unfold rAre
  congr 1
  rw [List.all_map]
  apply List.all_congr rfl
  intro s
  simp only [Function.comp, id, way_le]
theorem due_eq (B : Bk e n sps bs) : (decide (sps.map Sp.g).Nodup && !((List.range n.toNat).any fun i => (rootM sps (sps.length + 1) (i : Nat)).isNone)) = rAre sps := by
  rw [rAre_eq]
  congr 1
  rw [Bool.eq_iff_iff]
  simp only [Bool.not_eq_true', List.any_eq_false, List.mem_range, List.all_eq_true]
  constructor
  · intro h s hs
    have o := B.ok s hs
    have := h s.g.toNat (by have := o.g0; have := o.g1; omega)
    rw [show ((s.g.toNat : Nat) : Int) = s.g by have := o.g0; omega] at this
    cases z : rootM sps (sps.length + 1) s.g with
    | none => simp [z] at this
    | some x => rfl
  · intro h i hi
    cases z : fnd sps 0 (i : Int) with
    | none => simp [rootM, z]
    | some p =>
      obtain ⟨j, s⟩ := p
      obtain ⟨_, h2, h3⟩ := fnd_at sps 0 j i s z
      have := h s (List.mem_of_getElem? h2)
      rw [h3] at this
      cases z2 : rootM sps (sps.length + 1) (i : Int) with
      | none => simp [z2] at this
      | some x => simp
theorem nin_none (l : List (Option Int)) : ninD .none (.list (l.map rd)) = some (.bool (!l.any (·.isNone))) := by
  have h1 : (l.map rd).all flatD = true := by simp only [List.all_eq_true, List.mem_map]; rintro d ⟨o, _, rfl⟩; cases o <;> rfl
  have h2 : ((l.map rd).any fun y => flatEq y .none) = l.any (·.isNone) := by
    rw [List.any_map]; apply List.any_congr rfl; intro o; cases o <;> rfl
  simp only [ninD, inB, h1, h2, flatD, Bool.and_self, if_true, Option.map_some]
theorem flat_intl (ns : List Int) : (intl ns).all flatD = true := by simp only [intl, List.all_eq_true, List.mem_map]; rintro d ⟨o, _, rfl⟩; rfl
theorem nin_int (m : Int) (ns : List Int) : ninD (.int m) (.list (intl ns)) = some (.bool !(decide (m ∈ ns))) := by
  have h2 : ((intl ns).any fun y => flatEq y (.int m)) = decide (m ∈ ns) := by
    rw [Bool.eq_iff_iff]; simp only [intl, List.any_map, List.any_eq_true, Function.comp, flatEq, decide_eq_true_eq, beq_iff_eq]
    exact ⟨fun ⟨x, hx, hh⟩ => hh ▸ hx, fun h => ⟨m, h, rfl⟩⟩
  simp only [ninD, inB, flat_intl, h2, flatD, Bool.and_self, if_true, Option.map_some]
def chL (sps : List Sp) (n : Int) : List Int := ((List.range (n - 1).toNat).map fun k => (1 : Int) + (k : Nat)).filter fun m => !decide (m ∈ sps.map Sp.g)
def ninP (sps : List Sp) : D → Bool
  | .int m => !decide (m ∈ sps.map Sp.g)
  | _ => false
theorem ch_eq : (((rangeD 1 (n - 1).toNat).filter (ninP sps)).map id) = intl (chL sps n) := by
  rw [List.map_id, rangeD_ints, intl, List.filter_map]; rfl
theorem nin_KD (m : Int) : ninD (.int m) (.dict (KD sps 0)) = some (.bool !(decide (m ∈ sps.map Sp.g))) := by
  simp only [ninD, inB, keyOf, Option.map_some, KD_dget]
  have := fnd_none sps 0 m
  cases z : fnd sps 0 m with
  | none => have h := this.mp z; simp only [decide_eq_false h]; rfl
  | some p => 
    have h : m ∈ sps.map Sp.g := by
      false_or_by_contra
      rename_i h
      rw [this.mpr h] at z; cases z
    simp only [decide_eq_true h]; rfl
theorem rg1 (n0 : 1 ≤ n) (n1 : n ≤ 10) : rgI 1 n = some (rangeD 1 (n - 1).toNat) := rgI_ok (by omega) (by omega) (by omega) (by omega)
theorem rg0 (n0 : 1 ≤ n) (n1 : n ≤ 10) : rgI 0 n = some (rangeD 0 n.toNat) := by rw [rgI_ok (by omega) (by omega) (by omega) (by omega), show (n - 0).toNat = n.toNat by omega]
theorem e_chosen (B : Bk e n sps bs) (hr : rAre sps = true) : F_chosen [.d (bookD e n sps bs)] [] = .ok (.d (.tuple (intl (chL sps n)))) [] := by
  have hn : (sps.map Sp.g).Nodup := by simp only [rAre, Bool.and_eq_true, decide_eq_true_eq] at hr; exact hr.1
  have kn : ixD (bookD e n sps bs) (.int 1) = some (.int n) := by simp [ixD, bookD, atI, ixN]
  refine mkFn_rt rfl (sSeq_nx (sExpr_ok (v := .d .none) (S1 := []) (by simp [callD1 (e_check_yes B hr), mkFn, fin, sSeq, sRet, sRetN, sIf, sNil, sExpr, sSet, sAsg, sPut, sRaise, sBrk, sCt, gNm, gTp, gsCons, gsNil, gSb, eVar, eC, eBin, op2, op2R, ofO, look, lookR, eIx, ixD, eSl, pNone, pSome, eTup, eLst, mkSeq, allD, aNil, aCons, eAnd, eOr, eNot, eNeg, eIf, eChain, asB, tOf, tTru, tNotE, tAndE, tOrE, truV, truthD, eCB, lookAll, eIsi, isiD, eCall, R.bind, R.st, R.fl, R.noX, addD, subD, cmpD, lenD, allBD, absD, intD, tupleD, divmodD, max2D, min2D, itR1, itR2, ofL, sFor, slD, eLstM, mkLoc])) (sSeq_nx (sSet_ok (v := .d (.dict (KD sps 0))) (S1 := []) (by simp [callD1 (e_froms B.len hn), mkFn, fin, sSeq, sRet, sRetN, sIf, sNil, sExpr, sSet, sAsg, sPut, sRaise, sBrk, sCt, gNm, gTp, gsCons, gsNil, gSb, eVar, eC, eBin, op2, op2R, ofO, look, lookR, eIx, ixD, eSl, pNone, pSome, eTup, eLst, mkSeq, allD, aNil, aCons, eAnd, eOr, eNot, eNeg, eIf, eChain, asB, tOf, tTru, tNotE, tAndE, tOrE, truV, truthD, eCB, lookAll, eIsi, isiD, eCall, R.bind, R.st, R.fl, R.noX, addD, subD, cmpD, lenD, allBD, absD, intD, tupleD, divmodD, max2D, min2D, itR1, itR2, ofL, sFor, slD, eLstM, mkLoc]) rfl) (sRet_ok (eCB1_ok (a := .list (intl (chL sps n))) ?_ rfl))))
  rw [← ch_eq]
  refine eLc_if (S1 := []) (ninP sps) id (itR2_ok rfl (eIx_ok rfl rfl kn) (rg1 (by have := B.n0; omega) B.n1)) (fun d hd => ?_) (fun d hd _ => ?_)
  · simp only [rangeD, List.mem_map] at hd
    obtain ⟨i, _, rfl⟩ := hd
    generalize (1 : Int) + (i : Int) = m
    simp [chosen_I1, ninP, nin_KD, mkFn, fin, sSeq, sRet, sRetN, sIf, sNil, sExpr, sSet, sAsg, sPut, sRaise, sBrk, sCt, gNm, gTp, gsCons, gsNil, gSb, eVar, eC, eBin, op2, op2R, ofO, look, lookR, eIx, ixD, eSl, pNone, pSome, eTup, eLst, mkSeq, allD, aNil, aCons, eAnd, eOr, eNot, eNeg, eIf, eChain, asB, tOf, tTru, tNotE, tAndE, tOrE, truV, truthD, eCB, lookAll, eIsi, isiD, eCall, callM, lent, rebase, puts, back, isLive, R.bind, R.st, R.fl, R.noX, addD, subD, cmpD, lenD, allBD, absD, intD, tupleD, divmodD, max2D, min2D, itR1, itR2, ofL, sFor, slD, eLstM, mkLoc]
  · rfl
end
end Law

namespace Law
open PySem DL L2
section
variable {e n : Int} {sps : List Sp} {bs : List D}
def rts (sps : List Sp) (n : Int) : List (Option Int) := (List.range n.toNat).map fun i => rootM sps (sps.length + 1) (i : Nat)
def ends (sps : List Sp) (n : Int) : List Int := (List.range n.toNat).map fun i => endW sps (sps.length + 1) (i : Nat)
theorem rts_ends (B : Bk e n sps bs) (hr : rAre sps = true) : (rts sps n).map rd = intl (ends sps n) := by
  have := due_eq B
  rw [hr, Bool.and_eq_true] at this
  have h2 := this.2
  simp only [Bool.not_eq_true', List.any_eq_false, List.mem_range] at h2
  simp only [rts, ends, intl, List.map_map]
  apply List.map_congr_left
  intro i hi
  have hi' := h2 i (List.mem_range.mp hi)
  cases z : rootM sps (sps.length + 1) (i : Int) with
  | none => simp [z] at hi'
  | some x => have := (root_end _ _ _ z).1; simp only [Function.comp, z, rd, this]
theorem due_run (B : Bk e n sps bs) : (eAnd (eBin eqD (eLenSet (eVar 5)) (eCB lenD (aCons (eVar 5) aNil))) (eBin ninD (eC .none) (eVar 6))) [some (.d (bookD e n sps bs)), some (.d (.int e)), some (.d (.int n)), some (.d (.tuple (sps.map Sp.d))), some (.d (.tuple bs)), some (.d (.list (intl (sps.map Sp.g)))), some (.d (.list ((rts sps n).map rd))), none, none, none, none] [] = .ok (.d (.bool (rAre sps))) [] := by
  have l1 : lenD [.list (intl (sps.map Sp.g))] = some (.int ((sps.map Sp.g).length : Nat)) := by simp [lenD, intl]
  have l2 : (eLenSet (eVar 5)) [some (.d (bookD e n sps bs)), some (.d (.int e)), some (.d (.int n)), some (.d (.tuple (sps.map Sp.d))), some (.d (.tuple bs)), some (.d (.list (intl (sps.map Sp.g)))), some (.d (.list ((rts sps n).map rd))), none, none, none, none] [] = .ok (.d (.int ((distinct (sps.map Sp.g)).length : Nat))) [] := by
    have := B.len
    have q : (sps.map Sp.g).length ≤ 4000 := by rw [List.length_map]; omega
    simp only [eLenSet, eVar, List.getElem?_cons_succ, List.getElem?_cons_zero, R.bind, lookR, intsOf_ints, if_pos q]
  have hq : (((distinct (sps.map Sp.g)).length : Int) == ((sps.map Sp.g).length : Int)) = decide (sps.map Sp.g).Nodup := by
    rw [Bool.eq_iff_iff, beq_iff_eq, decide_eq_true_eq, ← distinct_eq]; omega
  have hq2 : eqD (.int ((distinct (sps.map Sp.g)).length : Nat)) (.int ((sps.map Sp.g).length : Nat)) = some (.bool (decide (sps.map Sp.g).Nodup)) := by
    rw [eqD, eqB_int, hq]; rfl
  have l3 := eBin_ok l2 (eCB1_ok (fa := eVar 5) (S1 := []) rfl l1) hq2
  have hd := due_eq B
  by_cases z : (sps.map Sp.g).Nodup
  · rw [decide_eq_true z] at l3 hd
    refine (eAnd_t l3 (eBin_ok rfl rfl (nin_none _))).trans ?_
    rw [← hd, Bool.true_and]
    simp only [rts, List.any_map]; rfl
  · rw [decide_eq_false z] at l3 hd
    rw [← hd, Bool.false_and]
    exact eAnd_f l3
theorem rts_run (B : Bk e n sps bs) : (eLc (itR1 (aCons (eVar 2) aNil)) [10] (gNm 10) tYesE m_law_right_E2) [some (.d (bookD e n sps bs)), some (.d (.int e)), some (.d (.int n)), some (.d (.tuple (sps.map Sp.d))), some (.d (.tuple bs)), some (.d (.list (intl (sps.map Sp.g)))), none, none, none, none, none] [] = .ok (.d (.list ((rts sps n).map rd))) [] := by
  have n0 : 1 ≤ n := by have := B.n0; omega
  refine (eLc_map (S1 := []) (fun d => match d with | .int m => rd (rootM sps (sps.length + 1) m) | _ => .none) (itR1_ok rfl (rg0 n0 B.n1)) fun d hd => ?_).trans ?_
  case refine_2 => simp [rangeD, rts]
  · simp only [rangeD, List.mem_map] at hd
    obtain ⟨i, _, rfl⟩ := hd
    generalize (0 : Int) + (i : Int) = m
    exact eCall2_ok rfl rfl (e_lroot B.len m)
theorem ch_run (B : Bk e n sps bs) (hr : rAre sps = true) (n0 : 1 ≤ n) : ∀ ρ : Ev, ρ[2]? = some (some (.d (.int n))) → ρ[5]? = some (some (.d (.list (intl (sps.map Sp.g))))) → 10 < ρ.length → (eCB tupleD (aCons (eLc (itR2 (aCons (eC (.int 1)) (aCons (eVar 2) aNil))) [10] (gNm 10) m_law_right_I3 m_law_right_E4) aNil)) ρ [] = .ok (.d (.tuple (intl (chL sps n)))) [] := fun ρ h2 h5 hl => by
  refine eCB1_ok (a := .list (intl (chL sps n))) ?_ rfl
  rw [← ch_eq]
  refine eLc_if (S1 := []) (ninP sps) id (itR2_ok rfl (by simp only [eVar, h2]) (rg1 n0 B.n1)) (fun d hd => ?_) (fun d hd _ => ?_)
  · simp only [rangeD, List.mem_map] at hd
    obtain ⟨i, _, rfl⟩ := hd
    generalize (1 : Int) + (i : Int) = m
    have g10 : (ρ.set 10 (some (.d (.int m))))[10]? = some (some (.d (.int m))) := List.getElem?_set_self hl
    have g5 : (ρ.set 10 (some (.d (.int m))))[5]? = some (some (.d (.list (intl (sps.map Sp.g))))) := by rw [List.getElem?_set_ne (by decide)]; exact h5
    simp only [m_law_right_I3, tOf, eBin, eVar, g10, g5, R.bind, op2, look, Option.bind, nin_int, ofO, asB, ninP]
  · have g10 : (ρ.set 10 (some (.d d)))[10]? = some (some (.d d)) := List.getElem?_set_self hl
    simp only [m_law_right_E4, eVar, g10, id]
theorem ends_run (B : Bk e n sps bs) (hr : rAre sps = true) (n0 : 1 ≤ n) : ∀ ρ : Ev, ρ[0]? = some (some (.d (bookD e n sps bs))) → ρ[2]? = some (some (.d (.int n))) → 10 < ρ.length → (eLc (itR1 (aCons (eVar 2) aNil)) [10] (gNm 10) tYesE m_law_right_E5) ρ [] = .ok (.d (.list (intl (ends sps n)))) [] := fun ρ h0 h2 hl => by
  refine (eLc_map (S1 := []) (fun d => match d with | .int m => .int (endW sps (sps.length + 1) m) | _ => .none) (itR1_ok (by simp only [eVar, h2]) (rg0 n0 B.n1)) fun d hd => ?_).trans ?_
  case refine_2 => simp [rangeD, ends, intl]
  · simp only [rangeD, List.mem_map, List.mem_range] at hd
    obtain ⟨i, hi, rfl⟩ := hd
    rw [show (0 : Int) + (i : Nat) = (i : Nat) by omega]
    have g10 : (ρ.set 10 (some (.d (.int (i : Nat)))))[10]? = some (some (.d (.int (i : Nat)))) := List.getElem?_set_self hl
    have g0 : (ρ.set 10 (some (.d (.int (i : Nat)))))[0]? = some (some (.d (bookD e n sps bs))) := by rw [List.getElem?_set_ne (by decide)]; exact h0
    simp only [m_law_right_E5, eCall, aCons, aNil, eVar, g10, g0, R.bind, callD2 (e_root B hr i (by omega))]
theorem e_right (B : Bk e n sps bs) : ∃ S', F__law_right [.d (bookD e n sps bs)] [] = .ok (.d (.bool true)) S' := by
  obtain ⟨Sb, hb⟩ := e_book B
  have n0 : 1 ≤ n := by have := B.n0; omega
  have hg : (eLc (itSeq (eVar 3)) [9] (gNm 9) tYesE m_law_right_E1) [some (.d (bookD e n sps bs)), some (.d (.int e)), some (.d (.int n)), some (.d (.tuple (sps.map Sp.d))), some (.d (.tuple bs)), none, none, none, none, none, none] [] = .ok (.d (.list (intl (sps.map Sp.g)))) [] := by
    refine (eLc_map (S1 := []) (fun d => match d with | .tuple [_, g, _, _] => g | _ => .none) (ds := sps.map Sp.d) rfl fun d hd => ?_).trans ?_
    case refine_2 => simp [Sp.d, intl]
    · obtain ⟨s, _, rfl⟩ := List.mem_map.mp hd
      simp [m_law_right_E1, Sp.d, atI, ixN, mkFn, fin, sSeq, sRet, sRetN, sIf, sNil, sExpr, sSet, sAsg, sPut, sRaise, sBrk, sCt, gNm, gTp, gsCons, gsNil, gSb, eVar, eC, eBin, op2, op2R, ofO, look, lookR, eIx, ixD, eSl, pNone, pSome, eTup, eLst, mkSeq, allD, aNil, aCons, eAnd, eOr, eNot, eNeg, eIf, eChain, asB, tOf, tTru, tNotE, tAndE, tOrE, truV, truthD, eCB, lookAll, eIsi, isiD, eCall, callM, lent, rebase, puts, back, isLive, R.bind, R.st, R.fl, R.noX, addD, subD, cmpD, lenD, allBD, absD, intD, tupleD, divmodD, max2D, min2D, itR1, itR2, ofL, sFor, slD, eLstM, mkLoc]
  have hs := rts_run B
  have hdue := due_run B
  have he : (eqB (.bool (rAre sps)) (.bool (rAre sps))) = some true := eqB_refl rfl
  refine ⟨[], ?_⟩
  have start : ∀ {r}, (sSeq (sIf (tOrE (tNotE (tTru (eIsi "bool" (eVar 8)))) (tOf (eBin neD (eVar 8) (eVar 7)))) (sRet (eC (.bool false))) sNil) (sSeq (sIf (tNotE (tTru (eVar 7))) (sRet (eCall 1 F__law_refused (aCons (eVar 0) aNil))) sNil) (sSeq (sIf (tOf (eBin neD (eCall 1 F_chosen (aCons (eVar 0) aNil)) (eCB tupleD (aCons (eLc (itR2 (aCons (eC (.int 1)) (aCons (eVar 2) aNil))) [10] (gNm 10) m_law_right_I3 m_law_right_E4) aNil)))) (sRet (eC (.bool false))) sNil) (sRet (eBin eqD (eLc (itR1 (aCons (eVar 2) aNil)) [10] (gNm 10) tYesE m_law_right_E5) (eVar 6))))))
      [some (.d (bookD e n sps bs)), some (.d (.int e)), some (.d (.int n)), some (.d (.tuple (sps.map Sp.d))), some (.d (.tuple bs)), some (.d (.list (intl (sps.map Sp.g)))), some (.d (.list ((rts sps n).map rd))), some (.d (.bool (rAre sps))), some (.d (.bool (rAre sps))), none, none] [] = r → b__law_right [some (.d (bookD e n sps bs)), none, none, none, none, none, none, none, none, none, none] [] = r := fun h =>
    sSeq_nx (ρ1 := [some (.d (bookD e n sps bs)), some (.d (.int e)), some (.d (.int n)), some (.d (.tuple (sps.map Sp.d))), some (.d (.tuple bs)), none, none, none, none, none, none]) (S1 := []) rfl
      (sSeq_nx (sSet_ok hg rfl) (sSeq_nx (sSet_ok hs rfl) (sSeq_nx (sSet_ok hdue rfl) (sSeq_nx (sSet_ok (v := .d (.bool (rAre sps))) (S1 := []) (eCall1_ok rfl hb) rfl) h))))
  have t1 : ∀ ρ : Ev, ρ[8]? = some (some (.d (.bool (rAre sps)))) → ρ[7]? = some (some (.d (.bool (rAre sps)))) → (tOrE (tNotE (tTru (eIsi "bool" (eVar 8)))) (tOf (eBin neD (eVar 8) (eVar 7)))) ρ [] = .ok false [] := fun ρ h8 h7 => by
    simp [h8, h7, neD, he, mkFn, fin, sSeq, sRet, sRetN, sIf, sNil, sExpr, sSet, sAsg, sPut, sRaise, sBrk, sCt, gNm, gTp, gsCons, gsNil, gSb, eVar, eC, eBin, op2, op2R, ofO, look, lookR, eIx, ixD, eSl, pNone, pSome, eTup, eLst, mkSeq, allD, aNil, aCons, eAnd, eOr, eNot, eNeg, eIf, eChain, asB, tOf, tTru, tNotE, tAndE, tOrE, truV, truthD, eCB, lookAll, eIsi, isiD, eCall, callM, lent, rebase, puts, back, isLive, R.bind, R.st, R.fl, R.noX, addD, subD, cmpD, lenD, allBD, absD, intD, tupleD, divmodD, max2D, min2D, itR1, itR2, ofL, sFor, slD, eLstM, mkLoc]
  refine mkFn_rt rfl (start (sSeq_nx (sIf_skip (S1 := []) (t1 _ rfl rfl)) ?_))
  cases hr : rAre sps with
  | false =>
    refine sSeq_rt (sIf_t (S1 := []) rfl (sRet_ok ?_))
    exact eCall1_ok rfl (e_refused B hr)
  | true =>
    refine sSeq_nx (sIf_skip (S1 := []) rfl) (sSeq_nx (sIf_skip (S1 := []) ?_) (sRet_ok ?_))
    · have c1 : ∀ ρ : Ev, ρ[0]? = some (some (.d (bookD e n sps bs))) → (eCall 1 F_chosen (aCons (eVar 0) aNil)) ρ [] = .ok (.d (.tuple (intl (chL sps n)))) [] := fun ρ h0 => by
        simp [h0, callD1 (e_chosen B hr), mkFn, fin, sSeq, sRet, sRetN, sIf, sNil, sExpr, sSet, sAsg, sPut, sRaise, sBrk, sCt, gNm, gTp, gsCons, gsNil, gSb, eVar, eC, eBin, op2, op2R, ofO, look, lookR, eIx, ixD, eSl, pNone, pSome, eTup, eLst, mkSeq, allD, aNil, aCons, eAnd, eOr, eNot, eNeg, eIf, eChain, asB, tOf, tTru, tNotE, tAndE, tOrE, truV, truthD, eCB, lookAll, eIsi, isiD, eCall, R.bind, R.st, R.fl, R.noX, addD, subD, cmpD, lenD, allBD, absD, intD, tupleD, divmodD, max2D, min2D, itR1, itR2, ofL, sFor, slD, eLstM, mkLoc]
      have c2 := ch_run B hr n0
      have c3 : neD (.tuple (intl (chL sps n))) (.tuple (intl (chL sps n))) = some (.bool false) := by
        rw [neD, eqB_refl (shaped_tuple _)]; rfl
      have := eBin_ok (c1 [some (.d (bookD e n sps bs)), some (.d (.int e)), some (.d (.int n)), some (.d (.tuple (sps.map Sp.d))), some (.d (.tuple bs)), some (.d (.list (intl (sps.map Sp.g)))), some (.d (.list ((rts sps n).map rd))), some (.d (.bool true)), some (.d (.bool true)), none, none] rfl) (c2 _ rfl rfl (by simp)) c3
      simp only [tOf, this, R.bind, asB]
    · have c4 := ends_run B hr n0
      have c5 : eqD (.list (intl (ends sps n))) (.list ((rts sps n).map rd)) = some (.bool true) := by
        rw [rts_ends B hr, eqD, eqB_refl (shaped_list _)]; rfl
      exact eBin_ok (c4 _ rfl rfl (by simp)) rfl c5
end
end Law

namespace Law
open PySem DL L2
theorem eTake {i : Nat} {f : Ex} {ρ : Ev} {S : Sto} {n : Nat} {N k : Int} (h0 : ρ[i]? = some (some (.loc n))) (hf : f ρ S = .ok (.d (.int k)) S) (hS : S[n]? = some (some (.lst [.int N]))) (hk : 0 < k) (hk2 : k < 1073741824) :
    eCall 2 F__law_take (aCons (eVar i) (aCons f aNil)) ρ S = .ok (.d (.int (N % k))) (S.set n (some (.lst [.int (N / k)]))) := by
  simp only [eCall, aCons, aNil, eVar, h0, hf, R.bind]
  exact take_call hS hk hk2
theorem eTake0 {i : Nat} {f : Ex} {ρ : Ev} {T : Sto} {N : Int} (k : Int) (h0 : ρ[i]? = some (some (.loc 0))) (hf : f ρ (some (.lst [.int N]) :: T) = .ok (.d (.int k)) (some (.lst [.int N]) :: T)) (hk : 0 < k) (hk2 : k < 1073741824) :
    eCall 2 F__law_take (aCons (eVar i) (aCons f aNil)) ρ (some (.lst [.int N]) :: T) = .ok (.d (.int (N % k))) (some (.lst [.int (N / k)]) :: T) := eTake h0 hf rfl hk hk2
theorem any_step (x0 : Nat) (n e N : Int) (sps : List Sp) (o4 o5 o6 o7 : Option Val) (n0 : 2 ≤ n) (n1 : n ≤ 10) (e0 : 1 ≤ e) (e1 : e ≤ 60) (hN : 0 ≤ N) (hl : sps.length < 1000) :
    ∃ (s : Sp) (N' : Int) (o5' o6' o7' : Option Val), SpOk e n s ∧ 0 ≤ N' ∧ m_law_any_spans_L1 [some (.loc 0), some (.d (.int n)), some (.d (.int e)), some (.loc 1), o4, o5, o6, o7] [some (.lst [.int N]), some (.lst (sps.map Sp.d))]
      = .ok (.nx [some (.loc 0), some (.d (.int n)), some (.d (.int e)), some (.loc 1), o4, o5', o6', o7']) [some (.lst [.int N']), some (.lst ((sps ++ [s]).map Sp.d))] := by
  obtain ⟨g, hg⟩ : ∃ g : Int, g = 1 + N % (n - 1) := ⟨_, rfl⟩
  obtain ⟨N1, hN1⟩ : ∃ M : Int, M = N / (n - 1) := ⟨_, rfl⟩
  obtain ⟨a, ha⟩ : ∃ a : Int, a = (g + 1 + N1 % (n - 1)) % n := ⟨_, rfl⟩
  obtain ⟨N2, hN2⟩ : ∃ M : Int, M = N1 / (n - 1) := ⟨_, rfl⟩
  obtain ⟨l, hl2⟩ : ∃ a : Int, a = 1 + N2 % e := ⟨_, rfl⟩
  obtain ⟨N3, hN3⟩ : ∃ M : Int, M = N2 / e := ⟨_, rfl⟩
  obtain ⟨m, hm⟩ : ∃ a : Int, a = l + N3 % (e + 1 - l) := ⟨_, rfl⟩
  obtain ⟨N4, hN4⟩ : ∃ M : Int, M = N3 / (e + 1 - l) := ⟨_, rfl⟩
  have g0 : 0 ≤ N % (n - 1) := Int.emod_nonneg _ (by omega)
  have g1 : N % (n - 1) < n - 1 := Int.emod_lt_of_pos _ (by omega)
  have b0 : 0 ≤ N1 % (n - 1) := Int.emod_nonneg _ (by omega)
  have b1 : N1 % (n - 1) < n - 1 := Int.emod_lt_of_pos _ (by omega)
  have c0 : 0 ≤ N2 % e := Int.emod_nonneg _ (by omega)
  have c1 : N2 % e < e := Int.emod_lt_of_pos _ (by omega)
  have l1 : 0 < e + 1 - l := by omega
  have d0 : 0 ≤ N3 % (e + 1 - l) := Int.emod_nonneg _ (by omega)
  have d1 : N3 % (e + 1 - l) < e + 1 - l := Int.emod_lt_of_pos _ l1
  have p1 : 0 ≤ N1 := by rw [hN1]; exact Int.ediv_nonneg hN (by omega)
  have p2 : 0 ≤ N2 := by rw [hN2]; exact Int.ediv_nonneg p1 (by omega)
  have p3 : 0 ≤ N3 := by rw [hN3]; exact Int.ediv_nonneg p2 (by omega)
  have p4 : 0 ≤ N4 := by rw [hN4]; exact Int.ediv_nonneg p3 (by omega)
  have a0 : 0 ≤ a := by rw [ha]; exact Int.emod_nonneg _ (by omega)
  have a1 : a < n := by rw [ha]; exact Int.emod_lt_of_pos _ (by omega)
  have ag : a ≠ g := by
    generalize hx : N1 % (n - 1) = x at *
    have e1 : g + 1 + x < n ∨ n ≤ g + 1 + x := by omega
    rcases e1 with z | z
    · rw [Int.emod_eq_of_lt (by omega) z] at ha; omega
    · have : (g + 1 + x) % n = g + 1 + x - n := by
        rw [← Int.sub_emod_right, Int.emod_eq_of_lt (by omega) (by omega)]
      omega
  refine ⟨⟨a, g, l, m⟩, N4, some (.d (.int g)), some (.d (.int a)), some (.d (.int l)), ⟨a0, by show a ≤ n - 1; omega, by show 1 ≤ g; omega, by show g ≤ n - 1; omega, ag, by show 1 ≤ l; omega, by show l ≤ m; omega, by show m ≤ e; omega⟩, p4, ?_⟩
  have hz : (sps.map Sp.d).length < sizeLine := by rw [sizeLine_eq, List.length_map]; omega
  refine sSeq_nx (sSet_ok (v := .d (.int g)) (S1 := [some (.lst [.int N1]), some (.lst (sps.map Sp.d))]) ?_ rfl) (sSeq_nx (sSet_ok (v := .d (.int a)) (S1 := [some (.lst [.int N2]), some (.lst (sps.map Sp.d))]) ?_ rfl) (sSeq_nx (sSet_ok (v := .d (.int l)) (S1 := [some (.lst [.int N3]), some (.lst (sps.map Sp.d))]) ?_ rfl) (sExpr_ok (v := .d .none) ?_)))
  · rw [hg, hN1]; exact eBin_ok rfl (eTake0 (n - 1) rfl rfl (by omega) (by omega)) addD_int
  · rw [ha, hN2]; exact eBin_ok (eBin_ok rfl (eTake0 (n - 1) rfl rfl (by omega) (by omega)) addD_int) rfl (modD_ok (by omega))
  · rw [hl2, hN3]; exact eBin_ok rfl (eTake0 e rfl rfl (by omega) (by omega)) addD_int
  · have hm2 : (eBin addD (eVar 7) (eCall 2 F__law_take (aCons (eVar 0) (aCons (eBin subD (eBin addD (eVar 2) (eC (.int 1))) (eVar 7)) aNil)))) [some (.loc 0), some (.d (.int n)), some (.d (.int e)), some (.loc 1), o4, some (.d (.int g)), some (.d (.int a)), some (.d (.int l))] [some (.lst [.int N3]), some (.lst (sps.map Sp.d))] = .ok (.d (.int m)) [some (.lst [.int N4]), some (.lst (sps.map Sp.d))] := by
      rw [hm, hN4]; exact eBin_ok rfl (eTake0 (e + 1 - l) rfl rfl (by omega) (by omega)) addD_int
    have ht : (eTup (aCons (eVar 6) (aCons (eVar 5) (aCons (eVar 7) (aCons (eBin addD (eVar 7) (eCall 2 F__law_take (aCons (eVar 0) (aCons (eBin subD (eBin addD (eVar 2) (eC (.int 1))) (eVar 7)) aNil)))) aNil))))) [some (.loc 0), some (.d (.int n)), some (.d (.int e)), some (.loc 1), o4, some (.d (.int g)), some (.d (.int a)), some (.d (.int l))] [some (.lst [.int N3]), some (.lst (sps.map Sp.d))] = .ok (.d (Sp.d ⟨a, g, l, m⟩)) [some (.lst [.int N4]), some (.lst (sps.map Sp.d))] := by
      generalize (eBin addD (eVar 7) (eCall 2 F__law_take (aCons (eVar 0) (aCons (eBin subD (eBin addD (eVar 2) (eC (.int 1))) (eVar 7)) aNil)))) = X at hm2
      simp only [eTup, aCons, aNil, hm2, R.bind, eVar, List.getElem?_cons_succ, List.getElem?_cons_zero, mkSeq, allD, Option.map_some, List.length_cons, List.length_nil]
      rfl
    generalize (eTup (aCons (eVar 6) (aCons (eVar 5) (aCons (eVar 7) (aCons (eBin addD (eVar 7) (eCall 2 F__law_take (aCons (eVar 0) (aCons (eBin subD (eBin addD (eVar 2) (eC (.int 1))) (eVar 7)) aNil)))) aNil))))) = X at ht
    simp only [eApp, eVar, List.getElem?_cons_succ, List.getElem?_cons_zero, R.bind, isLst, ht, appL, if_pos hz, List.set_cons_succ, List.set_cons_zero, List.map_append, List.map_cons, List.map_nil]
theorem any_loop (n e : Int) (n0 : 2 ≤ n) (n1 : n ≤ 10) (e0 : 1 ≤ e) (e1 : e ≤ 60) : ∀ (ds : List D) (sps : List Sp) (N : Int) (o4 o5 o6 o7 : Option Val), 0 ≤ N → (∀ s ∈ sps, SpOk e n s) → sps.length + ds.length < 1000 →
    ∃ (sps' : List Sp) (N' : Int) (o4' o5' o6' o7' : Option Val), (∀ s ∈ sps', SpOk e n s) ∧ sps'.length = sps.length + ds.length ∧ 0 ≤ N' ∧ forL (gNm 4) m_law_any_spans_L1 ds [some (.loc 0), some (.d (.int n)), some (.d (.int e)), some (.loc 1), o4, o5, o6, o7] [some (.lst [.int N]), some (.lst (sps.map Sp.d))]
      = .ok (.nx [some (.loc 0), some (.d (.int n)), some (.d (.int e)), some (.loc 1), o4', o5', o6', o7']) [some (.lst [.int N']), some (.lst (sps'.map Sp.d))] := by
  intro ds
  induction ds with
  | nil => exact fun sps N o4 o5 o6 o7 hN hs _ => ⟨sps, N, o4, o5, o6, o7, hs, rfl, hN, rfl⟩
  | cons d ds ih =>
    intro sps N o4 o5 o6 o7 hN hs hl
    simp only [List.length_cons] at hl
    obtain ⟨s, N1, p5, p6, p7, hok, hN1, h1⟩ := any_step 0 n e N sps (some (.d d)) o5 o6 o7 n0 n1 e0 e1 hN (by omega)
    obtain ⟨sps', N', o4', o5', o6', o7', q1, q2, q3, q4⟩ := ih (sps ++ [s]) N1 (some (.d d)) p5 p6 p7 hN1 (by intro x hx; rcases List.mem_append.mp hx with h | h; exact hs x h; rw [List.mem_singleton.mp h]; exact hok) (by simp; omega)
    exact ⟨sps', N', o4', o5', o6', o7', q1, by rw [q2]; simp; omega, q3, forN_cons rfl h1 q4⟩
theorem e_any (n e N : Int) (n0 : 2 ≤ n) (n1 : n ≤ 10) (e0 : 1 ≤ e) (e1 : e ≤ 60) (hN : 0 ≤ N) : ∃ (sps : List Sp) (N' : Int) (o : Option O), (∀ s ∈ sps, SpOk e n s) ∧ sps.length ≤ 4 ∧ 0 ≤ N' ∧
    F__law_any_spans [.loc 0, .d (.int n), .d (.int e)] [some (.lst [.int N])] = .ok (.d (.tuple (sps.map Sp.d))) [some (.lst [.int N']), o] := by
  obtain ⟨j, hj⟩ : ∃ j : Int, j = 1 + N % 4 := ⟨_, rfl⟩
  have hj2 : 1 ≤ j ∧ j ≤ 4 := by omega
  have hr : rgI 0 j = some (rangeD 0 j.toNat) := by rw [rgI_ok (by omega) (by omega) (by omega) (by omega), show (j - 0).toNat = j.toNat by omega]
  have hlen : (rangeD 0 j.toNat).length = j.toNat := by simp [rangeD]
  obtain ⟨sps', N', o4', o5', o6', o7', q1, q2, q3, q4⟩ := any_loop n e n0 n1 e0 e1 (rangeD 0 j.toNat) [] (N / 4) none none none none (by omega) (by simp) (by simp [hlen]; omega)
  refine ⟨sps', N', some (.lst (sps'.map Sp.d)), q1, by rw [q2, hlen]; simp; omega, q3, ?_⟩
  refine mkFn_rt rfl (sSeq_nx (sSet_ok (v := .loc 1) (S1 := [some (.lst [.int N]), some (.lst [])]) rfl rfl) (sSeq_nx (sFor_ok (itR1_ok (j := j) (S1 := [some (.lst [.int (N / 4)]), some (.lst [])]) ?_ hr) q4) (sRet_ok ?_)))
  · rw [hj]; exact eBin_ok rfl (eTake0 4 rfl rfl (by omega) (by omega)) addD_int
  · simp only [eCB, aCons, aNil, eVar, List.getElem?_cons_succ, List.getElem?_cons_zero, R.bind, lookAll, look, lookR, Option.bind, Option.map, tupleD, ofO]
end Law

namespace Law
open PySem DL L2
theorem pool_call (ns : List Int) (k : Int) (h0 : 0 ≤ k) (h1 : k ≤ 100) : ∃ N : Int, 0 ≤ N ∧ callM 2 F__law_pool [.scr (intl ns), .d (.int k)] [] = .ok (.loc 0) [some (.lst [.int N])] := by
  obtain ⟨N, hN, h⟩ := pool_ok ns k h0 h1
  refine ⟨N, hN, ?_⟩
  simp only [callM, lent, rebase, List.length_cons, List.length_nil, List.nodup_nil, List.all_nil, List.map_nil, h, back, puts]
  rfl
theorem any_call (n e N : Int) (n0 : 2 ≤ n) (n1 : n ≤ 10) (e0 : 1 ≤ e) (e1 : e ≤ 60) (hN : 0 ≤ N) : ∃ (sps : List Sp) (N' : Int), (∀ s ∈ sps, SpOk e n s) ∧ sps.length ≤ 4 ∧
    callM 3 F__law_any_spans [.loc 0, .d (.int n), .d (.int e)] [some (.lst [.int N])] = .ok (.d (.tuple (sps.map Sp.d))) [some (.lst [.int N'])] := by
  obtain ⟨sps, N', o, h1, h2, h3, h4⟩ := e_any n e N n0 n1 e0 e1 hN
  refine ⟨sps, N', h1, h2, ?_⟩
  have c : ([Val.loc 0, .d (.int n), .d (.int e)].length = 3 ∧ (lent [Val.loc 0, .d (.int n), .d (.int e)]).Nodup ∧ (lent [Val.loc 0, .d (.int n), .d (.int e)]).all (isLive [some (O.lst [.int N])]) = true) := ⟨rfl, by simp [lent], rfl⟩
  unfold callM
  rw [if_pos c]
  show (match F__law_any_spans [.loc 0, .d (.int n), .d (.int e)] [some (.lst [.int N])] with | .ok v S' => back [some (.lst [.int N])] [0] v S' | .exc x S' => .exc x (puts [some (.lst [.int N])] [0] S') | .bad => .bad) = _
  rw [h4]
  rfl
theorem bound_ok {e n : Int} (n0 : 2 ≤ n) (e0 : 1 ≤ e) (e1 : e ≤ 60) : F_is_bound [.d (.tuple [.int 0, .int (n - 1), .int e]), .d (.int n)] [] = .ok (.d (.bool true)) [] := by
  have h1 := @c_within 0 0 (n - 1) [] true (by simp; omega)
  have h2 := @c_within (n - 1) 0 (n - 1) [] true (by simp; omega)
  have h3 := @c_within e (-60) 60 [] true (by simp; omega)
  have h5 : ((0 : Int) == n - 1) = false := by simp; omega
  simp [F_is_bound, b_is_bound, eqD, neD, eqB_int, h1, h2, h3, h5, mkFn, fin, sSeq, sRet, sRetN, sIf, sNil, sExpr, sSet, sAsg, sPut, sRaise, sBrk, sCt, gNm, gTp, gsCons, gsNil, gSb, eVar, eC, eBin, op2, op2R, ofO, look, lookR, eIx, ixD, eSl, pNone, pSome, eTup, eLst, mkSeq, allD, aNil, aCons, eAnd, eOr, eNot, eNeg, eIf, eChain, asB, tOf, tTru, tNotE, tAndE, tOrE, truV, truthD, eCB, lookAll, eIsi, isiD, eCall, R.bind, R.st, R.fl, R.noX, addD, subD, cmpD, lenD, allBD, absD, intD, tupleD, divmodD, max2D, min2D, itR1, itR2, ofL, sFor, slD, eLstM, mkLoc]
theorem law_step (ns : List Int) (k : Int) (h0 : 0 ≤ k) (h1 : k ≤ 100) (o2 o3 o4 o5 : Option Val) : ∃ o3' o4' o5' : Option Val, law_L1 [some (.scr (intl ns)), some (.d (.int k)), o2, o3, o4, o5, none, none] [] = .ok (.nx [some (.scr (intl ns)), some (.d (.int k)), none, o3', o4', o5', none, none]) [] := by
  obtain ⟨N, hN, hp⟩ := pool_call ns k h0 h1
  obtain ⟨n, n0, n1, hn⟩ : ∃ n : Int, 2 ≤ n ∧ n ≤ 10 ∧ ixD (.list [.int (2 + N % 5), .int 10]) (.int (if (N / 5 % 4 == 3) = true then 1 else 0)) = some (.int n) := by
    by_cases z : (N / 5 % 4 == 3) = true
    · exact ⟨10, by omega, by omega, by rw [if_pos z]; rfl⟩
    · exact ⟨2 + N % 5, by omega, by omega, by rw [if_neg z]; rfl⟩
  obtain ⟨N2, hN2⟩ : ∃ M : Int, M = N / 5 / 4 := ⟨_, rfl⟩
  obtain ⟨e, he⟩ : ∃ e : Int, e = 1 + N2 % 60 := ⟨_, rfl⟩
  obtain ⟨N3, hN3⟩ : ∃ M : Int, M = N2 / 60 := ⟨_, rfl⟩
  have e0 : 1 ≤ e := by omega
  have e1 : e ≤ 60 := by omega
  obtain ⟨sps, N4, hok, hl, ha⟩ := any_call n e N3 n0 n1 e0 e1 (by omega)
  obtain ⟨S1, r1⟩ := e_right (bs := []) ⟨e0, e1, n0, n1, hl, hok, by simp, by simp⟩
  obtain ⟨S2, r2⟩ := e_right (e := e) (n := n) (sps := sps.reverse) (bs := [.tuple [.int 0, .int (n - 1), .int e]]) ⟨e0, e1, n0, n1, by simpa using hl, by simpa using hok, by simp, by intro b hb; rw [List.mem_singleton.mp hb]; exact bound_ok n0 e0 e1⟩
  refine ⟨some (.d (.int n)), some (.d (.int e)), some (.d (.tuple (sps.map Sp.d))), sScope_nx (ρ1 := [some (.scr (intl ns)), some (.d (.int k)), some (.loc 0), some (.d (.int n)), some (.d (.int e)), some (.d (.tuple (sps.map Sp.d))), none, none]) (S1 := [some (.lst [.int N4])]) ?_ rfl rfl⟩
  refine sSeq_nx (sSet_ok (v := .loc 0) (S1 := [some (.lst [.int N])]) hp rfl) (sSeq_nx (sSet_ok (v := .d (.int n)) (S1 := [some (.lst [.int N2])]) ?_ rfl) (sSeq_nx (sSet_ok (v := .d (.int e)) (S1 := [some (.lst [.int N3])]) ?_ rfl) (sSeq_nx (sSet_ok (v := .d (.tuple (sps.map Sp.d))) (S1 := [some (.lst [.int N4])]) ha rfl) (sIf_skip ?_))))
  · refine eIx_ok (a := .list [.int (2 + N % 5), .int 10]) (S1 := [some (.lst [.int (N / 5)])]) ?_ (eCB1_ok (a := .bool (N / 5 % 4 == 3)) (S1 := [some (.lst [.int N2])]) ?_ rfl) hn
    · have ht := eBin_ok (fa := eC (.int 2)) (S := [some (.lst [.int N])]) rfl (eTake0 (i := 2) (f := eC (.int 5)) (ρ := [some (.scr (intl ns)), some (.d (.int k)), some (.loc 0), o3, o4, o5, none, none]) (T := []) (N := N) 5 rfl rfl (by omega) (by omega)) addD_int
      generalize (eBin addD (eC (.int 2)) (eCall 2 F__law_take (aCons (eVar 2) (aCons (eC (.int 5)) aNil)))) = X at ht
      show (eLst (aCons X (aCons (eC (.int 10)) aNil))) [some (.scr (intl ns)), some (.d (.int k)), some (.loc 0), o3, o4, o5, none, none] [some (.lst [.int N])] = _
      simp only [eLst, aCons, aNil, ht, R.bind, eC, mkSeq, allD, Option.map_some, List.length_cons, List.length_nil]
      rfl
    · rw [hN2]
      exact eBin_ok (eTake0 4 rfl rfl (by omega) (by omega)) rfl (by rw [eqD, eqB_int]; rfl)
  · rw [he, hN3]; exact eBin_ok rfl (eTake0 60 rfl rfl (by omega) (by omega)) addD_int
  · refine tOr_f (S1 := [some (.lst [.int N4])]) (tNot_ok (b := true) (tTru_b (eCall1_ok (a := bookD e n sps []) rfl r1))) (tNot_ok (b := true) (tTru_b (eCall1_ok (a := bookD e n sps.reverse [.tuple [.int 0, .int (n - 1), .int e]]) ?_ r2)))
    show R.ok (Val.d (.tuple [.int e, .int n, .tuple ((sps.map Sp.d).reverse), .tuple [.tuple [.int 0, .int (n - 1), .int e]]])) [some (O.lst [.int N4])] = _
    rw [bookD, List.map_reverse]
theorem fixed_ok (sps : List Sp) (h : sps.length ≤ 4) (ho : ∀ s ∈ sps, SpOk 9 5 s) (ρ : Ev) (hρ : ρ[5]? = some (some (.d (.tuple (sps.map Sp.d))))) (S : Sto) : law_E2 ρ S = .ok (.d (.bool true)) S := by
  obtain ⟨S1, r1⟩ := e_right (e := 9) (n := 5) (sps := sps) (bs := []) ⟨by decide, by decide, by decide, by decide, h, ho, by simp, by simp⟩
  refine eCall1_ok (a := bookD 9 5 sps []) ?_ r1
  simp only [eTup, aCons, aNil, eVar, hρ, R.bind, eC, mkSeq, allD, Option.map_some, List.length_cons, List.length_nil]
  rfl
def spOkB (e n : Int) (s : Sp) : Bool := decide (0 ≤ s.a) && decide (s.a ≤ n - 1) && decide (1 ≤ s.g) && decide (s.g ≤ n - 1) && decide (s.a ≠ s.g) && decide (1 ≤ s.l) && decide (s.l ≤ s.m) && decide (s.m ≤ e)
theorem spOk_of {e n : Int} {s : Sp} (h : spOkB e n s = true) : SpOk e n s := by
  simp only [spOkB, Bool.and_eq_true, decide_eq_true_eq] at h
  obtain ⟨⟨⟨⟨⟨⟨⟨h1, h2⟩, h3⟩, h4⟩, h5⟩, h6⟩, h7⟩, h8⟩ := h
  exact ⟨h1, h2, h3, h4, h5, h6, h7, h8⟩
def ring : List Sp := [⟨1, 2, 1, 1⟩, ⟨2, 3, 1, 1⟩, ⟨3, 4, 1, 1⟩, ⟨4, 1, 1, 1⟩]
def line : List Sp := [⟨3, 4, 1, 1⟩, ⟨1, 2, 1, 1⟩, ⟨2, 3, 1, 1⟩, ⟨0, 1, 1, 1⟩]
def five : List (List Sp) := [ring, line, ring.take 3, line.take 3, ring.take 2 ++ line.take 1]
def tupD (sps : List Sp) : D := .tuple (sps.map Sp.d)
theorem law_true : LawTrue F_law := by
  intro ns hns
  obtain ⟨j, hj⟩ : ∃ j : Int, j = (if (if (30 : Int) < (intl ns).length then 30 else ((intl ns).length : Int)) > 2 then (if (30 : Int) < (intl ns).length then 30 else ((intl ns).length : Int)) else 2) := ⟨_, rfl⟩
  have hj2 : 0 ≤ j ∧ j ≤ 30 := by rw [hj]; split <;> split <;> omega
  have hr : rgI 0 j = some (rangeD 0 j.toNat) := by rw [rgI_ok (by omega) (by omega) (by omega) (by omega), show (j - 0).toNat = j.toNat by omega]
  have hL : ∃ o1 o3 o4 o5, forL (gNm 1) law_L1 (rangeD 0 j.toNat) [some (.scr (intl ns)), none, none, none, none, none, none, none] [] = .ok (.nx [some (.scr (intl ns)), o1, none, o3, o4, o5, none, none]) [] := by
    obtain ⟨ρ', S', h, o1, o3, o4, o5, hS, hρ, _⟩ := forN_inv (i := 1) (g := law_L1) (fun ds ρ S => ∃ o1 o3 o4 o5, S = [] ∧ ρ = [some (.scr (intl ns)), o1, none, o3, o4, o5, none, none] ∧ ∀ d ∈ ds, ∃ k : Int, d = .int k ∧ 0 ≤ k ∧ k ≤ 100)
      (fun d ds ρ S ⟨o1, o3, o4, o5, hS, hρ, hd⟩ => by
        subst hS hρ
        obtain ⟨k, rfl, k0, k1⟩ := hd d List.mem_cons_self
        obtain ⟨o3', o4', o5', h⟩ := law_step ns k k0 k1 none o3 o4 o5
        exact ⟨_, [], h, some (.d (.int k)), o3', o4', o5', rfl, rfl, fun x hx => hd x (List.mem_cons_of_mem _ hx)⟩)
      (ds := rangeD 0 j.toNat) (ρ := [some (.scr (intl ns)), none, none, none, none, none, none, none]) (S := []) ⟨none, none, none, none, rfl, rfl, fun d hd => by
        simp only [rangeD, List.mem_map, List.mem_range] at hd
        obtain ⟨t, ht, rfl⟩ := hd
        exact ⟨0 + (t : Int), rfl, by omega, by omega⟩⟩
    subst hS hρ
    exact ⟨o1, o3, o4, o5, h⟩
  obtain ⟨o1, o3, o4, o5, hL⟩ := hL
  have hi : (itR1 (aCons (eCB max2D (aCons (eC (.int 2)) (aCons (eCB min2D (aCons (eCB lenD (aCons (eVar 0) aNil)) (aCons (eC (.int 30)) aNil))) aNil))) aNil)) [some (.scr (intl ns)), none, none, none, none, none, none, none] [] = .ok (rangeD 0 j.toNat) [] := by
    refine itR1_ok (j := j) (S1 := []) ?_ hr
    rw [hj]
    simp only [eCB, aCons, aNil, eVar, eC, List.getElem?_cons_zero, R.bind, lookAll, lookR, look, Option.bind, Option.map, lenD, min2D, max2D, ofO]
  have hc : ∀ ρ : Ev, 5 < ρ.length → ∀ fi : Iy, fi ρ [] = .ok (five.map tupD) [] → (eLc fi [5] (gNm 5) tYesE law_E2) ρ [] = .ok (.d (.list (bls (five.map fun _ => true)))) [] := fun ρ hl fi hfi => by
    refine (eLc_map (S1 := []) (fun _ => .bool true) hfi fun d hd => ?_).trans ?_
    case refine_2 => simp [bls]
    · obtain ⟨sps, hs, rfl⟩ := List.mem_map.mp hd
      refine fixed_ok sps ?_ (fun s hs2 => spOk_of ?_) _ (List.getElem?_set_self hl) []
      · have q : ∀ sps ∈ five, sps.length ≤ 4 := by decide
        exact q sps hs
      · have q : ∀ sps ∈ five, ∀ s ∈ sps, spOkB 9 5 s = true := by decide
        exact q sps hs s hs2
  refine ⟨[], ?_⟩
  refine mkFn_rt rfl (sSeq_nx (sFor_ok hi hL) (sSeq_nx (sSet_ok (v := .d (tupD ring)) (S1 := []) rfl rfl) (sSeq_nx (sSet_ok (v := .d (tupD line)) (S1 := []) rfl rfl) (sRet_ok (eCB1_ok (hc _ (by simp) _ rfl) ?_)))))
  simp [allBD, blsOf_bls]
end Law

open PySem PySem.W PyProof.Rows
set_option maxRecDepth 100000 in
set_option maxHeartbeats 0 in
theorem PySem.Challenge.cw_loosehours_k03_spans_that_hang_holds : PySem.Challenge.rw_loosehours_k03_spans_that_hang.Holds := by
  w_on; o_law; k_head; (case hw => w_witness2)
  k_fill
  refine DL.walk_law (l := PySem.Challenge.rw_loosehours_k03_spans_that_hang) (k := 10) (x := "_law_script") rfl rfl ⟨rfl, by decide, by decide⟩ (fun w h Y => PySem.W.kIn_of Y) ?F
  case F =>
    intro w mg fa h KX G hmg
    refine' Law.all_mk Law.law_true KX G hmg ?q_is_whole ?l_is_whole ?c_is_whole ?k_is_whole ?q_is_within ?l_is_within ?c_is_within ?k_is_within ?q_is_span ?l_is_span ?c_is_span ?k_is_span ?q_is_bound ?l_is_bound ?c_is_bound ?k_is_bound ?q_spans_by_goal ?l_spans_by_goal ?c_spans_by_goal ?k_spans_by_goal ?q_way_from ?l_way_from ?c_way_from ?k_way_from ?q_are_spans ?l_are_spans ?c_are_spans ?k_are_spans ?q_is_book ?l_is_book ?c_is_book ?k_is_book ?q_check_book ?l_check_book ?c_check_book ?k_check_book ?q_check_mark ?l_check_mark ?c_check_mark ?k_check_mark ?q_froms ?l_froms ?c_froms ?k_froms ?q_ways_of ?l_ways_of ?c_ways_of ?k_ways_of ?q_chosen ?l_chosen ?c_chosen ?k_chosen ?q_root ?l_root ?c_root ?k_root ?q_show_book ?l_show_book ?c_show_book ?k_show_book ?q__law_pool ?l__law_pool ?c__law_pool ?k__law_pool ?q__law_take ?l__law_take ?c__law_take ?k__law_take ?q__law_root ?l__law_root ?c__law_root ?k__law_root ?q__law_any_spans ?l__law_any_spans ?c__law_any_spans ?k__law_any_spans ?q__law_refused ?l__law_refused ?c__law_refused ?k__law_refused ?q__law_right ?l__law_right ?c__law_right ?k__law_right ?q_law ?l_law ?c_law ?k_law ?n_abs ?n_all ?n_bool ?n_divmod ?n_enumerate ?n_int ?n_isinstance ?n_len ?n_max ?n_min ?n_range ?n_set ?n_sum ?n_tuple ?g_MOST_BOUNDS ?g_MOST_END ?g_MOST_MARKS ?g_MOST_SPANS ?g_MOST_W ?eg_NoBook ?ex_NoBook ?ek_NoBook ?eb_NoBook ?et_NoBook ?ei_NoBook ?eg_NoMark ?ex_NoMark ?ek_NoMark ?eb_NoMark ?et_NoMark ?ei_NoMark ?sx_NoBook_NoBook
    (case q_is_whole => k_is)
    (case l_is_whole => k_is)
    (case c_is_whole => k_is)
    (case k_is_whole => k_is)
    (case q_is_within => k_is)
    (case l_is_within => k_is)
    (case c_is_within => k_is)
    (case k_is_within => k_is)
    (case q_is_span => k_is)
    (case l_is_span => k_is)
    (case c_is_span => k_is)
    (case k_is_span => k_is)
    (case q_is_bound => k_is)
    (case l_is_bound => k_is)
    (case c_is_bound => k_is)
    (case k_is_bound => k_is)
    (case q_spans_by_goal => k_is)
    (case l_spans_by_goal => k_is)
    (case c_spans_by_goal => k_is)
    (case k_spans_by_goal => k_is)
    (case q_way_from => k_is)
    (case l_way_from => k_is)
    (case c_way_from => k_is)
    (case k_way_from => k_is)
    (case q_are_spans => k_is)
    (case l_are_spans => k_is)
    (case c_are_spans => k_is)
    (case k_are_spans => k_is)
    (case q_is_book => k_is)
    (case l_is_book => k_is)
    (case c_is_book => k_is)
    (case k_is_book => k_is)
    (case q_check_book => k_is)
    (case l_check_book => k_is)
    (case c_check_book => k_is)
    (case k_check_book => k_is)
    (case q_check_mark => k_is)
    (case l_check_mark => k_is)
    (case c_check_mark => k_is)
    (case k_check_mark => k_is)
    (case q_froms => k_is)
    (case l_froms => k_is)
    (case c_froms => k_is)
    (case k_froms => k_is)
    (case q_ways_of => k_is)
    (case l_ways_of => k_is)
    (case c_ways_of => k_is)
    (case k_ways_of => k_is)
    (case q_chosen => k_is)
    (case l_chosen => k_is)
    (case c_chosen => k_is)
    (case k_chosen => k_is)
    (case q_root => k_is)
    (case l_root => k_is)
    (case c_root => k_is)
    (case k_root => k_is)
    (case q_show_book => k_is)
    (case l_show_book => k_is)
    (case c_show_book => k_is)
    (case k_show_book => k_is)
    (case q__law_pool => k_is)
    (case l__law_pool => k_is)
    (case c__law_pool => k_is)
    (case k__law_pool => k_is)
    (case q__law_take => k_is)
    (case l__law_take => k_is)
    (case c__law_take => k_is)
    (case k__law_take => k_is)
    (case q__law_root => k_is)
    (case l__law_root => k_is)
    (case c__law_root => k_is)
    (case k__law_root => k_is)
    (case q__law_any_spans => k_is)
    (case l__law_any_spans => k_is)
    (case c__law_any_spans => k_is)
    (case k__law_any_spans => k_is)
    (case q__law_refused => k_is)
    (case l__law_refused => k_is)
    (case c__law_refused => k_is)
    (case k__law_refused => k_is)
    (case q__law_right => k_is)
    (case l__law_right => k_is)
    (case c__law_right => k_is)
    (case k__law_right => k_is)
    (case q_law => k_is)
    (case l_law => k_is)
    (case c_law => k_is)
    (case k_law => k_is)
    (case n_abs => k_is)
    (case n_all => k_is)
    (case n_bool => k_is)
    (case n_divmod => k_is)
    (case n_enumerate => k_is)
    (case n_int => k_is)
    (case n_isinstance => k_is)
    (case n_len => k_is)
    (case n_max => k_is)
    (case n_min => k_is)
    (case n_range => k_is)
    (case n_set => k_is)
    (case n_sum => k_is)
    (case n_tuple => k_is)
    (case g_MOST_BOUNDS => k_is)
    (case g_MOST_END => k_is)
    (case g_MOST_MARKS => k_is)
    (case g_MOST_SPANS => k_is)
    (case g_MOST_W => k_is)
    (case eg_NoBook => k_is)
    (case ex_NoBook => k_exc)
    (case ek_NoBook => k_is)
    (case eb_NoBook => k_is)
    (case et_NoBook => k_is)
    (case ei_NoBook => k_is)
    (case eg_NoMark => k_is)
    (case ex_NoMark => k_exc)
    (case ek_NoMark => k_is)
    (case eb_NoMark => k_is)
    (case et_NoMark => k_is)
    (case ei_NoMark => k_is)
    (case sx_NoBook_NoBook => first | rfl | k_is)

