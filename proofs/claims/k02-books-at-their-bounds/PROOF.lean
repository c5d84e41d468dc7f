import PyProof.Rows.All
import Wide.All
import OpenK.AllK
import Wide.FinOn
import HandS.ForMost
import HandS.ForExc
import HandS.IsInst
import HandS.Walk
import HandS.Zip
import HandS.Wide
import HandS.TupAny
import HandS.Style
import HandS.TupLe
import KE.GoesMore
import KE.GoesEnum
import KE.KRevSl
import HandS.More
import KE.GoesZip
import HandS.Conv
import HandS.TupMul
import HandS.Iter
import HandS.ExcValue
import HandS.ExcIs
import KE.RegKIsAll
import PySem.Challenge.RW_loosehours_k02_books_at_their_bounds
set_option Elab.async false
set_option linter.all false
set_option maxRecDepth 100000
set_option maxHeartbeats 4000000
set_option synthInstance.maxSize 4000
set_option exponentiation.threshold 500
/-! DL: a plain-data layer over the hand layer: every def becomes a plain function over PyData. -/
namespace DL
open PySem PySem.Spec PyProof.Rows L2

abbrev D := PyData
/-- a mutable object -/
inductive O where
  | lst (ds : List D)
  | dic (kds : List (Key × D))
/-- the store: none is an object that is no longer tracked -/
abbrev Sto := List (Option O)
/-- an error: its class by name -/
structure XV where
  cls : Str
/-- a value: data, or a place in the store -/
inductive Val where
  | d (x : D)
  | loc (n : Nat)
  /-- a list that is read, never written: the script -/
  | scr (ds : List D)
  /-- an error that was caught -/
  | er (x : XV)
abbrev Ev := List (Option Val)
/-- an exception that was caught, of the class cls -/
def ExC (cls : Value) (d : Option Addr) (a : Addr) : HO := .ext fun h => ∃ (oe : Obj) (vs : Array Value), h.get? a = some oe ∧ Zc cls d oe ∧ oe.data = .fields vs
inductive R (α : Type) where
  | ok (a : α) (S : Sto)
  | exc (x : XV) (S : Sto)
  | bad
def R.bind {α β : Type} (r : R α) (k : α → Sto → R β) : R β := match r with
  | .ok a S => k a S
  | .exc x S => .exc x S
  | .bad => .bad
inductive Flow where
  | nx (ρ : Ev) | bk (ρ : Ev) | ct (ρ : Ev) | rt (v : Val) | ex (x : XV) (ρ : Ev)
def R.st {α : Type} (r : R α) (ρ : Ev) (k : α → Sto → R Flow) : R Flow := match r with
  | .ok a S => k a S
  | .exc x S => .ok (.ex x ρ) S
  | .bad => .bad
abbrev Ex := Ev → Sto → R Val
abbrev Te := Ev → Sto → R Bool
abbrev La := Ev → Sto → R (List Val)
abbrev Blk := Ev → Sto → R Flow

/-! ### data and the heap -/
def keyD : Key → D
  | .inl i => .int i
  | .inr x => .str x
section
variable (A : Addr → Prop) (H : Hp)
mutual
inductive Rep : D → V → Prop
  | non : Rep .none .non
  | bl (b : Bool) : Rep (.bool b) (.bl b)
  | int (i : Int) : Rep (.int i) (.int i)
  | str (x : Str) : Rep (.str x) (.str x)
  | tup {a : Addr} {vs : List V} {ds : List D} : H a = some (.tup vs) → vs.length ≤ sizeLine → RepL ds vs → Rep (.tuple ds) (.ref a)
  | lst {a : Addr} {vs : List V} {ds : List D} : ¬ A a → H a = some (.lst vs) → vs.length ≤ sizeLine → RepL ds vs → Rep (.list ds) (.ref a)
  | dic {a : Addr} {kvs : List (Key × V)} {kds : List (D × D)} : ¬ A a → Rd H a (.dK kvs) → kvs.length ≤ sizeLine → RepK kds kvs → Rep (.dict kds) (.ref a)
inductive RepL : List D → List V → Prop
  | nil : RepL [] []
  | cons {d : D} {v : V} {ds : List D} {vs : List V} : Rep d v → RepL ds vs → RepL (d :: ds) (v :: vs)
inductive RepK : List (D × D) → List (Key × V) → Prop
  | nil : RepK [] []
  | cons {k : Key} {d : D} {v : V} {ds : List (D × D)} {vs : List (Key × V)} : Rep d v → RepK ds vs → RepK ((keyD k, d) :: ds) ((k, v) :: vs)
end
end

/-- what is kept of H in H' with A' for A: all that is not A -/
structure Kp (A : Addr → Prop) (H : Hp) (A' : Addr → Prop) (H' : Hp) : Prop where
  tup : ∀ a vs, H a = some (.tup vs) → H' a = some (.tup vs)
  fr : ∀ a o, H a = some o → ¬ A a → H' a = some o
  grow : ∀ a o, H a = some o → A' a → A a
section
variable {A A' : Addr → Prop} {H H' : Hp}
theorem Kp.rd (k : Kp A H A' H') {a : Addr} {u : HO} (n : ¬ A a) (r : Rd H a u) : Rd H' a u := by
  rcases r with r | ⟨o, r⟩
  · exact .inl (k.fr a _ r n)
  · exact .inr ⟨o, k.fr a _ r n⟩
theorem Kp.na (k : Kp A H A' H') {a : Addr} {u : HO} (n : ¬ A a) (r : Rd H a u) : ¬ A' a := fun z => by
  rcases r with r | ⟨o, r⟩
  · exact n (k.grow a _ r z)
  · exact n (k.grow a _ r z)
mutual
theorem Rep.keep (k : Kp A H A' H') : ∀ (d : D) (v : V), Rep A H d v → Rep A' H' d v
  | .none, _, h => by cases h; exact .non
  | .bool _, _, h => by cases h; exact .bl _
  | .int _, _, h => by cases h; exact .int _
  | .str _, _, h => by cases h; exact .str _
  | .tuple ds, _, h => by
    cases h with
    | tup h hl r => exact .tup (k.tup _ _ h) hl (RepL.keep k ds _ r)
  | .list ds, _, h => by
    cases h with
    | lst n h hl r => exact .lst (k.na n (.inl h)) (k.fr _ _ h n) hl (RepL.keep k ds _ r)
  | .dict ds, _, h => by
    cases h with
    | dic n h hl r => exact .dic (k.na n h) (k.rd n h) hl (RepK.keep k ds _ r)
theorem RepL.keep (k : Kp A H A' H') : ∀ (ds : List D) (vs : List V), RepL A H ds vs → RepL A' H' ds vs
  | [], _, h => by cases h; exact .nil
  | d :: ds, _, h => by
    cases h with
    | cons h1 h2 => exact .cons (Rep.keep k d _ h1) (RepL.keep k ds _ h2)
theorem RepK.keep (k : Kp A H A' H') : ∀ (ds : List (D × D)) (vs : List (Key × V)), RepK A H ds vs → RepK A' H' ds vs
  | [], _, h => by cases h; exact .nil
  | (_, d) :: ds, _, h => by
    cases h with
    | cons h1 h2 => exact .cons (Rep.keep k d _ h1) (RepK.keep k ds _ h2)
end
theorem RepL.length : ∀ {ds : List D} {vs : List V}, RepL A H ds vs → ds.length = vs.length
  | _, _, .nil => rfl
  | _, _, .cons _ r => by rw [List.length_cons, List.length_cons, RepL.length r]
theorem RepL.get : ∀ {ds : List D} {vs : List V}, RepL A H ds vs → ∀ {i : Nat} {d : D}, ds[i]? = some d → ∃ v, vs[i]? = some v ∧ Rep A H d v
  | _, _, .nil, i, d, e => by simp at e
  | _, _, .cons h _, 0, d, e => by simp at e; subst e; exact ⟨_, rfl, h⟩
  | _, _, .cons _ r, i + 1, d, e => by
    obtain ⟨v, h1, h2⟩ := RepL.get r (i := i) (by simpa using e)
    exact ⟨v, by simpa using h1, h2⟩
theorem RepL.getV : ∀ {ds : List D} {vs : List V}, RepL A H ds vs → ∀ {i : Nat} {v : V}, vs[i]? = some v → ∃ d, ds[i]? = some d ∧ Rep A H d v
  | _, _, .nil, i, d, e => by simp at e
  | _, _, .cons h _, 0, d, e => by simp at e; subst e; exact ⟨_, rfl, h⟩
  | _, _, .cons _ r, i + 1, d, e => by
    obtain ⟨v, h1, h2⟩ := RepL.getV r (i := i) (by simpa using e)
    exact ⟨v, by simpa using h1, h2⟩
theorem RepL.append : ∀ {ds es : List D} {vs us : List V}, RepL A H ds vs → RepL A H es us → RepL A H (ds ++ es) (vs ++ us)
  | _, _, _, _, .nil, s => s
  | _, _, _, _, .cons h r, s => .cons h (RepL.append r s)
theorem RepL.take : ∀ {ds : List D} {vs : List V} (n : Nat), RepL A H ds vs → RepL A H (ds.take n) (vs.take n)
  | _, _, 0, _ => .nil
  | _, _, _ + 1, .nil => .nil
  | _, _, n + 1, .cons h r => .cons h (RepL.take n r)
theorem RepL.drop : ∀ {ds : List D} {vs : List V} (n : Nat), RepL A H ds vs → RepL A H (ds.drop n) (vs.drop n)
  | _, _, 0, h => h
  | _, _, _ + 1, .nil => .nil
  | _, _, n + 1, .cons _ r => RepL.drop n r
theorem RepL.set {d : D} {v : V} (h : Rep A H d v) : ∀ {ds : List D} {vs : List V} (n : Nat), RepL A H ds vs → RepL A H (ds.set n d) (vs.set n v)
  | _, _, _, .nil => .nil
  | _, _, 0, .cons _ r => .cons h r
  | _, _, n + 1, .cons g r => .cons g (RepL.set h n r)
theorem RepL.reverse : ∀ {ds : List D} {vs : List V}, RepL A H ds vs → RepL A H ds.reverse vs.reverse
  | _, _, .nil => .nil
  | _, _, .cons h r => by
    rw [List.reverse_cons, List.reverse_cons]
    exact RepL.append (RepL.reverse r) (.cons h .nil)
/-- fewer addresses are shut -/
theorem Rep.shut {B : Addr → Prop} (h : ∀ a, B a → A a) {d : D} {v : V} (r : Rep A H d v) : Rep B H d v := Rep.keep ⟨fun _ _ q => q, fun _ _ q _ => q, fun _ _ _ z => h _ z⟩ d v r
end

/-! ### the store and the heap -/
structure Cor (Ω : PySem.W.Frag) where
  m : List Addr
  A : Addr → Prop
def ORep (c : Cor Ω) (H : Hp) (a : Addr) : O → Prop
  | .lst ds => ∃ vs, H a = some (.lst vs) ∧ vs.length ≤ sizeLine ∧ RepL c.A H ds vs
  | .dic kds => ∃ kvs, H a = some (.dK kvs) ∧ kvs.length ≤ sizeLine ∧ RepK c.A H (kds.map fun p => (keyD p.1, p.2)) kvs
def live (c : Cor Ω) (S : Sto) (a : Addr) : Prop := ∃ (n : Nat) (o : O), c.m[n]? = some a ∧ S[n]? = some (some o)
structure Rel (c : Cor Ω) (S : Sto) (H : Hp) : Prop where
  len : c.m.length = S.length
  inj : ∀ (n n' : Nat) (a : Addr) (o o' : O), c.m[n]? = some a → c.m[n']? = some a → S[n]? = some (some o) → S[n']? = some (some o') → n = n'
  ob : ∀ (n : Nat) (a : Addr) (o : O), c.m[n]? = some a → S[n]? = some (some o) → c.A a ∧ ORep c H a o
  tr : ∀ a, c.A a → ∃ o, H a = some o
  nt : ∀ a vs, H a = some (.tup vs) → ¬ c.A a
/-- from a state to a later one -/
structure Nx (c : Cor Ω) (S : Sto) (H : Hp) (c' : Cor Ω) (S' : Sto) (H' : Hp) : Prop where
  pre : c.m <+: c'.m
  grow : ∀ a, c'.A a → c.A a ∨ H a = none
  lock : ∀ a, c.A a → ¬ live c S a → c'.A a
  rel : Rel c' S' H'
  fr : ∀ a o, H a = some o → ¬ live c S a → H' a = some o
  lv : ∀ a, live c' S' a → live c S a ∨ H a = none
section
variable {c c1 c2 : Cor Ω} {S S1 S2 : Sto} {H H1 H2 : Hp}
theorem Rel.live (r : Rel c S H) {a : Addr} (h : live c S a) : c.A a := by
  obtain ⟨n, o, h1, h2⟩ := h
  exact (r.ob n a o h1 h2).1
theorem Nx.refl (r : Rel c S H) : Nx c S H c S H := ⟨List.prefix_refl _, fun _ h => .inl h, fun _ h _ => h, r, fun _ _ h _ => h, fun _ h => .inl h⟩
theorem Nx.trans (r : Rel c S H) (x : Nx c S H c1 S1 H1) (y : Nx c1 S1 H1 c2 S2 H2) : Nx c S H c2 S2 H2 where
  pre := x.pre.trans y.pre
  grow := fun a h => by
    rcases y.grow a h with h | h
    · exact x.grow a h
    · cases q : H a with
      | none => exact .inr rfl
      | some o =>
        by_cases l : live c S a
        · exact .inl (r.live l)
        · rw [x.fr a o q l] at h; cases h
  lock := fun a h l => y.lock a (x.lock a h l) fun z => by
    rcases x.lv a z with z | z
    · exact l z
    · obtain ⟨o, q⟩ := r.tr a h
      rw [q] at z; cases z
  rel := y.rel
  fr := fun a o q l => y.fr a o (x.fr a o q l) fun z => by
    rcases x.lv a z with z | z
    · exact l z
    · rw [q] at z; cases z
  lv := fun a h => by
    rcases y.lv a h with h | h
    · exact x.lv a h
    · cases q : H a with
      | none => exact .inr rfl
      | some o =>
        by_cases l : live c S a
        · exact .inl l
        · rw [x.fr a o q l] at h; cases h
theorem Nx.kp (r : Rel c S H) (x : Nx c S H c1 S1 H1) : Kp c.A H c1.A H1 where
  tup := fun a vs h => x.fr a _ h fun z => r.nt a vs h (r.live z)
  fr := fun a o h n => x.fr a o h fun z => n (r.live z)
  grow := fun a o h z => by
    rcases x.grow a z with z | z
    · exact z
    · rw [h] at z; cases z
end
def VRep (c : Cor Ω) (H : Hp) : Val → V → Prop
  | .d x, u => Rep c.A H x u
  | .loc n, u => ∃ a, c.m[n]? = some a ∧ u = .ref a
  | .scr ds, u => ∃ a vs, u = .ref a ∧ ((¬ c.A a ∧ Rd H a (.lst vs)) ∨ ∀ H', SqL Ω H' a vs) ∧ vs.length ≤ sizeLine ∧ RepL c.A H ds vs
  | .er x, u => ∃ a C, u = .ref a ∧ ¬ c.A a ∧ PySem.W.nsIn Ω mainGlobals x.cls = some (some (.ref C)) ∧ H a = some (ExC (.ref C) none a)
theorem prefix_get {α : Type} {l l' : List α} (h : l <+: l') {n : Nat} {a : α} (e : l[n]? = some a) : l'[n]? = some a := by
  obtain ⟨t, rfl⟩ := h
  obtain ⟨hn, _⟩ := List.getElem?_eq_some_iff.mp e
  rw [List.getElem?_append_left hn]; exact e
theorem VRep.keep {c c1 : Cor Ω} {S S1 : Sto} {H H1 : Hp} (r : Rel c S H) (x : Nx c S H c1 S1 H1) : ∀ {v : Val} {u : V}, VRep c H v u → VRep c1 H1 v u
  | .d _, _, h => Rep.keep (x.kp r) _ _ h
  | .loc _, _, ⟨a, h1, h2⟩ => ⟨a, prefix_get x.pre h1, h2⟩
  | .scr _, _, ⟨a, vs, h1, h2, h4, h5⟩ => ⟨a, vs, h1, h2.elim (fun z => .inl ⟨(x.kp r).na z.1 z.2, (x.kp r).rd z.1 z.2⟩) .inr, h4, RepL.keep (x.kp r) _ _ h5⟩
  | .er _, _, ⟨a, C, h1, h2, h3, h4⟩ => ⟨a, C, h1, fun z => h2 ((x.kp r).grow a _ h4 z), h3, (x.kp r).fr a _ h4 h2⟩
inductive VRepL (c : Cor Ω) (H : Hp) : List Val → List V → Prop
  | nil : VRepL c H [] []
  | cons {x : Val} {v : V} {xs : List Val} {vs : List V} : VRep c H x v → VRepL c H xs vs → VRepL c H (x :: xs) (v :: vs)
theorem VRepL.keep {c c1 : Cor Ω} {S S1 : Sto} {H H1 : Hp} (r : Rel c S H) (x : Nx c S H c1 S1 H1) : ∀ {v : List Val} {u : List V}, VRepL c H v u → VRepL c1 H1 v u
  | _, _, .nil => .nil
  | _, _, .cons h t => .cons (h.keep r x) (VRepL.keep r x t)
theorem VRepL.length {c : Cor Ω} {H : Hp} : ∀ {v : List Val} {u : List V}, VRepL c H v u → v.length = u.length
  | _, _, .nil => rfl
  | _, _, .cons _ t => by rw [List.length_cons, List.length_cons, t.length]
structure RepE (c : Cor Ω) (H : Hp) (ρ : Ev) (σ : L2.St) : Prop where
  len : ρ.length = σ.length
  at' : ∀ (i : Nat) (v : Val), ρ[i]? = some (some v) → ∃ u, σ[i]? = some (some u) ∧ VRep c H v u
theorem RepE.keep {c c1 : Cor Ω} {S S1 : Sto} {H H1 : Hp} {ρ : Ev} {σ : L2.St} (r : Rel c S H) (x : Nx c S H c1 S1 H1) (e : RepE c H ρ σ) : RepE c1 H1 ρ σ :=
  ⟨e.len, fun i v h => let ⟨u, h1, h2⟩ := e.at' i v h; ⟨u, h1, h2.keep r x⟩⟩
theorem RepE.set {c : Cor Ω} {H : Hp} {ρ : Ev} {σ : L2.St} {v : Val} {u : V} (e : RepE c H ρ σ) (h : VRep c H v u) (i : Nat) : RepE c H (ρ.set i (some v)) (σ.set i (some u)) := by
  refine ⟨by simpa using e.len, fun j w hj => ?_⟩
  by_cases q : i = j
  · subst q
    have hl : i < ρ.length := by
      cases Nat.lt_or_ge i ρ.length with
      | inl h => exact h
      | inr h => rw [List.getElem?_eq_none (by simpa using h)] at hj; cases hj
    rw [List.getElem?_set_self hl] at hj
    cases hj
    exact ⟨u, List.getElem?_set_self (e.len ▸ hl), h⟩
  · rw [List.getElem?_set_ne q] at hj
    obtain ⟨z, h1, h2⟩ := e.at' j w hj
    exact ⟨z, by rw [List.getElem?_set_ne q]; exact h1, h2⟩

/-! ### errors -/
def XRep (mg : Str → Option Value) (x : XV) (cls : Value) (d : Option Addr) (_ : Hp) : Prop := ∃ C, mg x.cls = some (.ref C) ∧ cls = .ref C ∧ d = none

/-! ### what comes behind a piece -/
section
variable {Ω : PySem.W.Frag} (mg : Str → Option Value) (W : WX)
def Aft {α : Type} (c : Cor Ω) (S : Sto) (σ : L2.St) (H : Hp) (r : R α) (k : α → Cor Ω → Sto → Hp → Prop) : Prop := match r with
  | .ok a S' => ∀ c' H', Nx c S H c' S' H' → k a c' S' H'
  | .exc x S' => ∀ c' H' cls d, Nx c S H c' S' H' → XRep mg x cls d H' → W cls d σ H'
  | .bad => False
/-- the reading of an expression -/
def tE (Ω : PySem.W.Frag) (mg : Str → Option Value) (W : WX) (f : Ex) : TE := fun σ H Q => ∃ (c : Cor Ω) (ρ : Ev) (S : Sto), Rel c S H ∧ RepE c H ρ σ ∧ Aft mg W c S σ H (f ρ S) fun v c' _ H' => ∀ u, VRep c' H' v u → Q u H'
def tT (Ω : PySem.W.Frag) (mg : Str → Option Value) (W : WX) (f : Te) : TT := fun σ H Q => ∃ (c : Cor Ω) (ρ : Ev) (S : Sto), Rel c S H ∧ RepE c H ρ σ ∧ Aft mg W c S σ H (f ρ S) fun b _ _ H' => Q b H'
def tA (Ω : PySem.W.Frag) (mg : Str → Option Value) (W : WX) (f : La) : TA := fun σ H Q => ∃ (c : Cor Ω) (ρ : Ev) (S : Sto), Rel c S H ∧ RepE c H ρ σ ∧ Aft mg W c S σ H (f ρ S) fun vs c' _ H' => ∀ us, VRepL c' H' vs us → Q us H'
def AftS (c : Cor Ω) (S : Sto) (H : Hp) (r : R Flow) (D : Ends) : Prop := match r with
  | .ok (.nx ρ) S' => ∀ c' σ' H', Nx c S H c' S' H' → RepE c' H' ρ σ' → D.nx σ' H'
  | .ok (.bk ρ) S' => ∀ c' σ' H', Nx c S H c' S' H' → RepE c' H' ρ σ' → D.bk σ' H'
  | .ok (.ct ρ) S' => ∀ c' σ' H', Nx c S H c' S' H' → RepE c' H' ρ σ' → D.ct σ' H'
  | .ok (.rt v) S' => ∀ c' H' u, Nx c S H c' S' H' → VRep c' H' v u → D.rt u H'
  | .ok (.ex x ρ) S' => ∀ c' σ' H' cls d, Nx c S H c' S' H' → RepE c' H' ρ σ' → XRep mg x cls d H' → W cls d σ' H'
  | .exc _ _ => False
  | .bad => False
def tS (Ω : PySem.W.Frag) (mg : Str → Option Value) (W : WX) (g : Blk) : TS := fun D σ H => ∃ (c : Cor Ω) (ρ : Ev) (S : Sto), Rel c S H ∧ RepE c H ρ σ ∧ AftS mg W c S H (g ρ S) D
end
section
variable {mg : Str → Option Value} {W : WX} {c c1 : Cor Ω} {S S1 : Sto} {σ : L2.St} {H H1 : Hp} {α β : Type}
theorem Aft.mono {r : R α} {k k' : α → Cor Ω → Sto → Hp → Prop} (h : Aft mg W c S σ H r k) (hk : ∀ a c' S' H', Nx c S H c' S' H' → k a c' S' H' → k' a c' S' H') : Aft mg W c S σ H r k' := by
  cases r with
  | ok a S' => exact fun c' H' x => hk a c' S' H' x (h c' H' x)
  | exc x S' => exact h
  | bad => exact h
theorem Aft.bind (hr : Rel c S H) {r : R α} {k : α → Sto → R β} {K : β → Cor Ω → Sto → Hp → Prop} (h : Aft mg W c S σ H (r.bind k) K) :
    Aft mg W c S σ H r fun a c1 S1 H1 => Aft mg W c1 S1 σ H1 (k a S1) K := by
  cases r with
  | ok a S1 =>
    intro c1 H1 x1
    have h' : Aft mg W c S σ H (k a S1) K := h
    revert h'
    cases k a S1 with
    | ok b S2 => exact fun h' c2 H2 x2 => h' c2 H2 (x1.trans hr x2)
    | exc e S2 => exact fun h' c2 H2 cls d x2 => h' c2 H2 cls d (x1.trans hr x2)
    | bad => exact fun h' => h'
  | exc x S' => exact h
  | bad => exact h
theorem AftS.later (hr : Rel c S H) (x : Nx c S H c1 S1 H1) {r : R Flow} {D : Ends} (h : AftS mg W c S H r D) : AftS mg W c1 S1 H1 r D := by
  cases r with
  | ok f S' =>
    cases f with
    | nx ρ => exact fun c' σ' H' y e => h c' σ' H' (x.trans hr y) e
    | bk ρ => exact fun c' σ' H' y e => h c' σ' H' (x.trans hr y) e
    | ct ρ => exact fun c' σ' H' y e => h c' σ' H' (x.trans hr y) e
    | rt v => exact fun c' H' u y e => h c' H' u (x.trans hr y) e
    | ex z ρ => exact fun c' σ' H' cls d y e => h c' σ' H' cls d (x.trans hr y) e
  | exc x S' => exact h
  | bad => exact h
/-- a statement that begins with an expression -/
theorem Aft.st (hr : Rel c S H) {ρ : Ev} (he : RepE c H ρ σ) {r : R α} {k : α → Sto → R Flow} {D : Ends} (h : AftS mg W c S H (r.st ρ k) D) :
    Aft mg W c S σ H r fun a c1 S1 H1 => AftS mg W c1 S1 H1 (k a S1) D := by
  cases r with
  | ok a S1 => exact fun c1 H1 x1 => AftS.later hr x1 h
  | exc x S' => exact fun c' H' cls d y z => h c' σ H' cls d y (he.keep hr y) z
  | bad => exact h
end
end DL

namespace DL
open PySem PySem.Spec PyProof.Rows L2
/-! ### judgements -/
theorem PE.imp {X : Cx} {e : Expr} {t t' : TE} (h : PE X e t) (hi : ∀ σ H Q, t' σ H Q → t σ H Q) : PE X e t' := ⟨fun pins s σ H Q I hw => h.run pins s σ H Q I (hi σ H Q hw)⟩
theorem PT.imp {X : Cx} {e : Expr} {t t' : TT} (h : PT X e t) (hi : ∀ σ H Q, t' σ H Q → t σ H Q) : PT X e t' := ⟨fun pins s σ H Q I hw => h.run pins s σ H Q I (hi σ H Q hw)⟩
theorem PW.imp {X : Cx} {e : Expr} {t t' : TT} (h : PW X e t) (hi : ∀ σ H Q, t' σ H Q → t σ H Q) : PW X e t' := ⟨fun wh pins s σ H Q I hw => h.run wh pins s σ H Q I (hi σ H Q hw)⟩
theorem PA.imp {X : Cx} {e : List Expr} {t t' : TA} (h : PA X e t) (hi : ∀ σ H Q, t' σ H Q → t σ H Q) : PA X e t' := ⟨fun p pins s σ H Q I hw => h.run p pins s σ H Q I (hi σ H Q hw)⟩
theorem PS.imp {X : Cx} {st : Stmt} {t t' : TS} (h : PS X st t) (hi : ∀ D σ H, t' D σ H → t D σ H) : PS X st t' := ⟨fun pins s σ H D I hw => h.run pins s σ H D I (hi D σ H hw)⟩
theorem PSs.imp {X : Cx} {st : List Stmt} {t t' : TS} (h : PSs X st t) (hi : ∀ D σ H, t' D σ H → t D σ H) : PSs X st t' := ⟨fun pins s σ H D I hw => h.run pins s σ H D I (hi D σ H hw)⟩
theorem OpR.imp {X : Cx} {f : Value → Value → Sem Value} {r r' : R2} (h : OpR X f r) (hi : ∀ x y H Q, r' x y H Q → r x y H Q) : OpR X f r' := fun pins s σ H x y v u Q I rx ry q => h pins s σ H x y v u Q I rx ry (hi _ _ _ _ q)
theorem UnR.imp {X : Cx} {f : Value → Sem Value} {r r' : V → Hp → VK → Prop} (h : UnR X f r) (hi : ∀ x H Q, r' x H Q → r x H Q) : UnR X f r' := fun pins s σ H x v Q I rx q => h pins s σ H x v Q I rx (hi _ _ _ q)
theorem CallR.imp {X : Cx} {f : Value} {r r' : List V → Hp → VK → Prop} (h : CallR X f r) (hi : ∀ xs H Q, r' xs H Q → r xs H Q) : CallR X f r' := fun pins s σ H xs us Q I rx q => h pins s σ H xs us Q I rx (hi _ _ _ q)
theorem IxR.imp {X : Cx} {r r' : R2} (h : IxR X r) (hi : ∀ x y H Q, r' x y H Q → r x y H Q) : IxR X r' := fun value slice pins s σ H x y v u Q I rx ry q hs => h value slice pins s σ H x y v u Q I rx ry (hi _ _ _ _ q) hs
abbrev SE (X : Cx) (W : WX) (e : Expr) (f : Ex) : Prop := PE X e (tE X.K X.mg W f)
abbrev ST (X : Cx) (W : WX) (e : Expr) (f : Te) : Prop := PT X e (tT X.K X.mg W f)
abbrev SW (X : Cx) (W : WX) (e : Expr) (f : Te) : Prop := PW X e (tT X.K X.mg W f)
abbrev SA (X : Cx) (W : WX) (es : List Expr) (f : La) : Prop := PA X es (tA X.K X.mg W f)
abbrev SS (X : Cx) (W : WX) (st : Stmt) (g : Blk) : Prop := PS X st (tS X.K X.mg W g)
abbrev SSs (X : Cx) (W : WX) (sts : List Stmt) (g : Blk) : Prop := PSs X sts (tS X.K X.mg W g)

/-! ### reading values -/
def look (S : Sto) : Val → Option D
  | .d x => some x
  | .loc n => match S[n]? with
    | some (some (.lst ds)) => some (.list ds)
    | some (some (.dic kds)) => some (.dict (kds.map fun p => (keyD p.1, p.2)))
    | _ => none
  | .scr _ => none
  | .er _ => none
def lookR (S : Sto) : Val → Option D
  | .scr ds => some (.list ds)
  | .d x => some x
  | .loc n => look S (.loc n)
  | .er _ => none
inductive LRep (c : Cor Ω) (H : Hp) : D → V → Prop
  | of {d : D} {u : V} : Rep c.A H d u → LRep c H d u
  | lst {a : Addr} {vs : List V} {ds : List D} : H a = some (.lst vs) → vs.length ≤ sizeLine → RepL c.A H ds vs → LRep c H (.list ds) (.ref a)
  | dic {a : Addr} {kvs : List (Key × V)} {kds : List (D × D)} : H a = some (.dK kvs) → kvs.length ≤ sizeLine → RepK c.A H kds kvs → LRep c H (.dict kds) (.ref a)
inductive LRepR (c : Cor Ω) (H : Hp) : D → V → Prop
  | of {d : D} {u : V} : LRep c H d u → LRepR c H d u
  | scr {a : Addr} {vs : List V} {ds : List D} : (Rd H a (.lst vs) ∨ ∀ H', SqL Ω H' a vs) → vs.length ≤ sizeLine → RepL c.A H ds vs → LRepR c H (.list ds) (.ref a)
section
variable {c c1 : Cor Ω} {S S1 : Sto} {H H1 : Hp} {u : V} {x : D}
theorem look_rep (r : Rel c S H) : ∀ {v : Val} {u : V} {x : D}, VRep c H v u → look S v = some x → LRep c H x u
  | .d y, u, x, h, e => by cases e; exact .of h
  | .scr _, _, _, _, e => by cases e
  | .er _, _, _, _, e => by cases e
  | .loc n, u, x, ⟨a, h1, h2⟩, e => by
    subst h2
    simp only [look] at e
    split at e
    · rename_i ds h3
      cases e
      obtain ⟨_, vs, q1, q2, q3⟩ := r.ob n a _ h1 h3
      exact .lst q1 q2 q3
    · rename_i kds h3
      cases e
      obtain ⟨_, vs, q1, q2, q3⟩ := r.ob n a _ h1 h3
      exact .dic q1 q2 q3
    · cases e
theorem lookR_rep (r : Rel c S H) : ∀ {v : Val} {u : V} {x : D}, VRep c H v u → lookR S v = some x → LRepR c H x u
  | .d y, u, x, h, e => by cases e; exact .of (.of h)
  | .scr _, _, _, ⟨a, vs, h1, h3, h4, h5⟩, e => by cases e; subst h1; exact .scr (h3.elim (fun z => .inl z.2) .inr) h4 h5
  | .loc n, u, x, h, e => .of (look_rep r h (by simpa [lookR] using e))
  | .er _, _, _, _, e => by cases e
theorem LRep.int {i : Int} (h : LRep c H (.int i) u) : u = .int i := by cases h with | of h => cases h; rfl
theorem LRep.str {i : Str} (h : LRep c H (.str i) u) : u = .str i := by cases h with | of h => cases h; rfl
theorem LRep.bl {i : Bool} (h : LRep c H (.bool i) u) : u = .bl i := by cases h with | of h => cases h; rfl
theorem LRep.non (h : LRep c H .none u) : u = .non := by cases h with | of h => cases h; rfl
theorem LRep.tup {ds : List D} (h : LRep c H (.tuple ds) u) : ∃ a vs, u = .ref a ∧ H a = some (.tup vs) ∧ vs.length ≤ sizeLine ∧ RepL c.A H ds vs := by
  cases h with | of h => cases h with | tup h1 h2 h3 => exact ⟨_, _, rfl, h1, h2, h3⟩
theorem LRep.list {ds : List D} (h : LRep c H (.list ds) u) : ∃ a vs, u = .ref a ∧ H a = some (.lst vs) ∧ vs.length ≤ sizeLine ∧ RepL c.A H ds vs := by
  cases h with
  | of h => cases h with | lst h0 h1 h2 h3 => exact ⟨_, _, rfl, h1, h2, h3⟩
  | lst h1 h2 h3 => exact ⟨_, _, rfl, h1, h2, h3⟩
theorem LRep.dict {ds : List (D × D)} (h : LRep c H (.dict ds) u) : ∃ a vs, u = .ref a ∧ Rd H a (.dK vs) ∧ vs.length ≤ sizeLine ∧ RepK c.A H ds vs := by
  cases h with
  | of h => cases h with | dic h0 h1 h2 h3 => exact ⟨_, _, rfl, h1, h2, h3⟩
  | dic h1 h2 h3 => exact ⟨_, _, rfl, .inl h1, h2, h3⟩
theorem LRepR.list {ds : List D} (h : LRepR c H (.list ds) u) : ∃ a vs, u = .ref a ∧ SqL Ω H a vs ∧ vs.length ≤ sizeLine ∧ RepL c.A H ds vs := by
  cases h with
  | of h => obtain ⟨a, vs, h1, h2, h3, h4⟩ := h.list; exact ⟨a, vs, h1, SqL.of h2, h3, h4⟩
  | scr h1 h2 h3 => exact ⟨_, _, rfl, h1.elim .inl (fun z => z H), h2, h3⟩
theorem LRepR.plain {d : D} (hd : ∀ ds, d ≠ .list ds) (h : LRepR c H d u) : LRep c H d u := by
  cases h with
  | of h => exact h
  | scr h1 h2 h3 => exact absurd rfl (hd _)
theorem LRep.keep (r : Rel c S H) (x1 : Nx c S H c1 S H1) (hl : ∀ a, live c S a → H1 a = H a) : ∀ {d : D} {u : V}, LRep c H d u → LRep c1 H1 d u
  | _, _, .of h => .of (Rep.keep (x1.kp r) _ _ h)
  | _, _, .lst (a := a) h1 h2 h3 => by
    refine .lst ?_ h2 (RepL.keep (x1.kp r) _ _ h3)
    by_cases l : live c S a
    · rw [hl a l]; exact h1
    · exact x1.fr a _ h1 l
  | _, _, .dic (a := a) h1 h2 h3 => by
    refine .dic ?_ h2 (RepK.keep (x1.kp r) _ _ h3)
    by_cases l : live c S a
    · rw [hl a l]; exact h1
    · exact x1.fr a _ h1 l
end

/-! ### a new object, which is not in the store -/
theorem Nx.new {c : Cor Ω} {S : Sto} {H : Hp} (r : Rel c S H) {p : Addr} {o : HO} (hp : H p = none) : Nx c S H c S (upd H p o) := by
  have na : ∀ a, c.A a → a ≠ p := fun a h e => by
    obtain ⟨q, z⟩ := r.tr a h
    rw [e, hp] at z; cases z
  have k : Kp c.A H c.A (upd H p o) := ⟨fun a vs h => by rw [upd_ne (ne_of_none h hp)]; exact h, fun a q h _ => by rw [upd_ne (ne_of_none h hp)]; exact h, fun _ _ _ z => z⟩
  refine ⟨List.prefix_refl _, fun _ h => .inl h, fun _ h _ => h, ⟨r.len, r.inj, fun n a ob h1 h2 => ?_, fun a h => ?_, fun a vs h => ?_⟩, fun a q h _ => by rw [upd_ne (ne_of_none h hp)]; exact h, fun _ h => .inl h⟩
  · obtain ⟨h3, h4⟩ := r.ob n a ob h1 h2
    refine ⟨h3, ?_⟩
    cases ob with
    | lst ds => obtain ⟨vs, q1, q2, q3⟩ := h4; exact ⟨vs, by rw [upd_ne (na a h3)]; exact q1, q2, RepL.keep k _ _ q3⟩
    | dic ds => obtain ⟨vs, q1, q2, q3⟩ := h4; exact ⟨vs, by rw [upd_ne (na a h3)]; exact q1, q2, RepK.keep k _ _ q3⟩
  · obtain ⟨q, z⟩ := r.tr a h
    exact ⟨q, by rw [upd_ne (na a h)]; exact z⟩
  · intro z
    rw [upd_ne (na a z)] at h
    exact r.nt a vs h z
theorem Rep.newTup {c : Cor Ω} {S : Sto} {H : Hp} (r : Rel c S H) {p : Addr} (hp : H p = none) {ds : List D} {vs : List V} (h : RepL c.A H ds vs) (hl : vs.length ≤ sizeLine) : Rep c.A (upd H p (.tup vs)) (.tuple ds) (.ref p) :=
  .tup upd_same hl (RepL.keep ((Nx.new r hp).kp r) _ _ h)
theorem Rep.newLst {c : Cor Ω} {S : Sto} {H : Hp} (r : Rel c S H) {p : Addr} (hp : H p = none) {ds : List D} {vs : List V} (h : RepL c.A H ds vs) (hl : vs.length ≤ sizeLine) : Rep c.A (upd H p (.lst vs)) (.list ds) (.ref p) :=
  .lst (fun z => by obtain ⟨o, q⟩ := r.tr p z; rw [hp] at q; cases q) upd_same hl (RepL.keep ((Nx.new r hp).kp r) _ _ h)

/-! ### names and constants -/
def eVar (i : Nat) : Ex := fun ρ S => match ρ[i]? with
  | some (some v) => .ok v S
  | _ => .bad
def eC (x : D) : Ex := fun _ S => .ok (.d x) S
section
variable {X : Cx} {W : WX}
theorem se_var {e : Expr} {i : Nat} (h : PE X e (tVar i)) : SE X W e (eVar i) := PE.imp h fun σ H Q ⟨c, ρ, S, hr, he, q⟩ => by
  unfold eVar at q
  split at q
  · rename_i v hv
    obtain ⟨u, h1, h2⟩ := he.at' i v hv
    exact ⟨u, h1, q c H (Nx.refl hr) u h2⟩
  · exact q.elim
theorem se_c {e : Expr} {x : D} {v : V} (h : PE X e (tC v)) (hx : ∀ A H, Rep A H x v) : SE X W e (eC x) := PE.imp h fun σ H Q ⟨c, ρ, S, hr, he, q⟩ => q c H (Nx.refl hr) v (hx _ _)
theorem se_int {i j pos} : SE X W (.Constant (.int i) j pos) (eC (.int i)) := se_c pe_int fun _ _ => .int i
theorem se_bl {i j pos} : SE X W (.Constant (.bool i) j pos) (eC (.bool i)) := se_c pe_bl fun _ _ => .bl i
theorem se_non {j pos} : SE X W (.Constant .none j pos) (eC .none) := se_c pe_non fun _ _ => .non
theorem se_str {i j pos} : SE X W (.Constant (.str i) j pos) (eC (.str i)) := se_c pe_str fun _ _ => .str i

/-! ### two expressions, then an operation that reads -/
def ofO (o : Option D) (S : Sto) : R Val := match o with
  | some r => .ok (.d r) S
  | none => .bad
def op2 (op : D → D → Option D) (v w : Val) (S : Sto) : R Val := ofO ((look S v).bind fun x => (look S w).bind fun y => op x y) S
def eBin (op : D → D → Option D) (fa fb : Ex) : Ex := fun ρ S => (fa ρ S).bind fun v S1 => (fb ρ S1).bind fun w S2 => op2 op v w S2
theorem two {mg : Str → Option Value} {β : Type} {c : Cor Ω} {S : Sto} {H : Hp} {ρ : Ev} {σ : L2.St} {fa fb : Ex} {k : Val → Val → Sto → R β} {K : β → Cor Ω → Sto → Hp → Prop} {R' : V → V → Hp → Prop} (hr : Rel c S H) (he : RepE c H ρ σ)
    (h : Aft mg W c S σ H ((fa ρ S).bind fun v S1 => (fb ρ S1).bind fun w S2 => k v w S2) K)
    (hR : ∀ v w c2 S2 H2 x y, Nx c S H c2 S2 H2 → VRep c2 H2 v x → VRep c2 H2 w y → Aft mg W c2 S2 σ H2 (k v w S2) K → R' x y H2) :
    tE Ω mg W fa σ H fun x H1 => tE Ω mg W fb σ H1 fun y H2 => R' x y H2 := by
  refine ⟨c, ρ, S, hr, he, (Aft.bind hr h).mono fun v c1 S1 H1 x1 h1 u hu => ?_⟩
  refine ⟨c1, ρ, S1, x1.rel, he.keep hr x1, (Aft.bind x1.rel h1).mono fun w c2 S2 H2 x2 h2 y hy => ?_⟩
  exact hR v w c2 S2 H2 u y (x1.trans hr x2) (hu.keep x1.rel x2) hy h2
/-- an operation on data: r2D Ω is its reading -/
def r2D (Ω : PySem.W.Frag) (op : D → D → Option D) : R2 := fun x y H Q => ∃ (c : Cor Ω) (S : Sto) (d e r : D), Rel c S H ∧ LRep c H d x ∧ LRep c H e y ∧ op d e = some r ∧ ∀ c' H' u, Nx c S H c' S H' → Rep c'.A H' r u → Q u H'
theorem op2_r {mg : Str → Option Value} {op : D → D → Option D} {c : Cor Ω} {S : Sto} {H : Hp} {σ : L2.St} {v w : Val} {x y : V} {Q : VK} (hr : Rel c S H) (hv : VRep c H v x) (hw : VRep c H w y)
    (h : Aft mg W c S σ H (op2 op v w S) fun v c' _ H' => ∀ u, VRep c' H' v u → Q u H') : r2D Ω op x y H Q := by
  unfold op2 at h
  cases e1 : look S v with
  | none => rw [e1] at h; exact h.elim
  | some d =>
    cases e2 : look S w with
    | none => rw [e1, e2] at h; exact h.elim
    | some e =>
      cases e3 : op d e with
      | none => simp only [e1, e2, e3, Option.bind] at h; exact h.elim
      | some r =>
        simp only [e1, e2, e3, Option.bind] at h
        exact ⟨c, S, d, e, r, hr, look_rep hr hv e1, look_rep hr hw e2, e3, fun c' H' u x1 hu => h c' H' x1 u hu⟩
theorem se_bin {o : Operator} {op : D → D → Option D} {a b : Expr} {fa fb : Ex} {pos : Pos} (ho : OpR X (binaryOp o) (r2D X.K op)) (ha : SE X W a fa) (hb : SE X W b fb) : SE X W (.BinOp a o b pos) (eBin op fa fb) :=
  PE.imp (pe_op ho ha hb) fun σ H Q ⟨c, ρ, S, hr, he, q⟩ => two hr he q fun v w c2 S2 H2 x y x1 hv hw h => op2_r x1.rel hv hw h
theorem se_cmp {o : CmpOp} {op : D → D → Option D} {a b : Expr} {fa fb : Ex} {pos : Pos} (ho : OpR X (compareOp o) (r2D X.K op)) (ha : SE X W a fa) (hb : SE X W b fb) (hm : behindInMarks o b = false) : SE X W (.Compare a [o] [b] pos) (eBin op fa fb) :=
  PE.imp (pe_cmpR ho ha hb hm) fun σ H Q ⟨c, ρ, S, hr, he, q⟩ => two hr he q fun v w c2 S2 H2 x y x1 hv hw h => op2_r x1.rel hv hw h
/-- a comparison as a test -/
def asB (v : Val) (S : Sto) : R Bool := match v with
  | .d (.bool b) => .ok b S
  | _ => .bad
def tOf (f : Ex) : Te := fun ρ S => (f ρ S).bind asB
theorem asB_r {mg : Str → Option Value} {c : Cor Ω} {S : Sto} {H : Hp} {σ : L2.St} {v : Val} {u : V} {k : Bool → Cor Ω → Sto → Hp → Prop} (hr : Rel c S H) (hv : VRep c H v u) (h : Aft mg W c S σ H (asB v S) k) : ∃ b, v = .d (.bool b) ∧ u = .bl b ∧ k b c S H := by
  unfold asB at h
  split at h
  · cases hv; exact ⟨_, rfl, rfl, h c H (Nx.refl hr)⟩
  · exact h.elim
theorem st_cmp {o : CmpOp} {op : D → D → Option D} {a b : Expr} {fa fb : Ex} {pos : Pos} (ho : OpR X (compareOp o) (r2D X.K op)) (ha : SE X W a fa) (hb : SE X W b fb) (hm : behindInMarks o b = false) : ST X W (.Compare a [o] [b] pos) (tOf (eBin op fa fb)) :=
  PT.imp (pt_cmpR ho ha hb hm) fun σ H Q ⟨c, ρ, S, hr, he, q⟩ => two hr he (Aft.bind hr q) fun v w c2 S2 H2 x y x1 hv hw h =>
    op2_r x1.rel hv hw (h.mono fun v c' S' H' x2 h' u hu => let ⟨b, _, e, q⟩ := asB_r x2.rel hu h'; ⟨b, e, q⟩)
end
end DL

namespace DL
open PySem PySem.Spec PyProof.Rows L2
/-! ### operations on data -/
def smallI (i : Int) : Bool := decide (-18446744073709551616 < i) && decide (i < 18446744073709551616)
def addD : D → D → Option D
  | .int i, .int j => some (.int (i + j))
  | .str x, .str y => if x.length + y.length ≤ sizeLine then some (.str (x ++ y)) else none
  | .tuple xs, .tuple ys => if xs.length + ys.length ≤ sizeLine then some (.tuple (xs ++ ys)) else none
  | .list xs, .list ys => if xs.length + ys.length ≤ sizeLine then some (.list (xs ++ ys)) else none
  | _, _ => none
def subD : D → D → Option D
  | .int i, .int j => some (.int (i - j))
  | _, _ => none
def mulD : D → D → Option D
  | .int i, .int j => if (smallI j || smallI i || decide (i.natAbs.log2 + j.natAbs.log2 < 1000000)) = true then some (.int (i * j)) else none
  | _, _ => none
def fdivD : D → D → Option D
  | .int i, .int j => if 0 < j ∧ j.natAbs.log2 < 9000 then some (.int (i / j)) else none
  | _, _ => none
def modD : D → D → Option D
  | .int i, .int j => if 0 < j then some (.int (i % j)) else none
  | _, _ => none
def powD : D → D → Option D
  | .int i, .int j => if 0 ≤ j ∧ j ≤ 1000000 ∧ i.natAbs < 18446744073709551616 then some (.int (i ^ j.toNat)) else none
  | _, _ => none
section
variable {X : Cx}
theorem o_add : OpR X (binaryOp .Add) (r2D X.K addD) := OpR.imp (op_add.or (op_add_str.or (op_catA.or op_cat))) fun x y H Q ⟨c, S, d, e, r, hr, hd, he, ho, q⟩ => by
  unfold addD at ho
  split at ho
  · cases ho; rw [hd.int, he.int]; exact .inl ⟨_, _, rfl, rfl, q c H _ (Nx.refl hr) (.int _)⟩
  · split at ho
    · cases ho; rw [hd.str, he.str]; exact .inr (.inl ⟨_, _, rfl, rfl, by assumption, q c H _ (Nx.refl hr) (.str _)⟩)
    · cases ho
  · split at ho
    · rename_i hl
      cases ho
      obtain ⟨a, vs, rfl, ha, hal, ra⟩ := hd.tup
      obtain ⟨b, us, rfl, hb, hbl, rb⟩ := he.tup
      have hl' : vs.length + us.length ≤ sizeLine := by rw [← ra.length, ← rb.length]; exact hl
      refine .inr (.inr (.inl ⟨a, b, vs, us, rfl, rfl, SqT.of ha, SqT.of hb, hl', fun e => ?_, fun _ e => ?_, fun _ _ p hp => ?_⟩))
      · subst e; cases ra; exact q c H _ (Nx.refl hr) (.tup hb hbl rb)
      · subst e; cases rb; rw [List.append_nil] at q; exact q c H _ (Nx.refl hr) (.tup ha hal ra)
      · exact q c _ _ (Nx.new hr hp) (Rep.newTup hr hp (ra.append rb) (by rw [List.length_append]; exact hl'))
    · cases ho
  · split at ho
    · rename_i hl
      cases ho
      obtain ⟨a, vs, rfl, ha, hal, ra⟩ := hd.list
      obtain ⟨b, us, rfl, hb, hbl, rb⟩ := he.list
      have hl' : vs.length + us.length ≤ sizeLine := by rw [← ra.length, ← rb.length]; exact hl
      exact .inr (.inr (.inr ⟨a, b, vs, us, rfl, rfl, ha, hb, hl', fun p hp => q c _ _ (Nx.new hr hp) (Rep.newLst hr hp (ra.append rb) (by rw [List.length_append]; exact hl'))⟩))
    · cases ho
  · cases ho
theorem o_sub : OpR X (binaryOp .Sub) (r2D X.K subD) := OpR.imp op_sub fun x y H Q ⟨c, S, d, e, r, hr, hd, he, ho, q⟩ => by
  unfold subD at ho
  split at ho
  · cases ho; rw [hd.int, he.int]; exact ⟨_, _, rfl, rfl, q c H _ (Nx.refl hr) (.int _)⟩
  · cases ho
theorem smallI_ok {i : Int} (h : smallI i = true) : -(2 ^ 64) < i ∧ i < 2 ^ 64 := by
  unfold smallI at h
  simp only [Bool.and_eq_true, decide_eq_true_eq] at h
  exact ⟨by omega, by omega⟩
theorem o_mul : OpR X (binaryOp .Mult) (r2D X.K mulD) := OpR.imp (op_mul.or op_mulW) fun x y H Q ⟨c, S, d, e, r, hr, hd, he, ho, q⟩ => by
  unfold mulD at ho
  split at ho
  · rename_i i j
    split at ho
    · rename_i hs
      cases ho; rw [hd.int, he.int]
      have q' := q c H _ (Nx.refl hr) (.int _)
      rw [Bool.or_eq_true, Bool.or_eq_true, decide_eq_true_eq] at hs
      rcases hs with (h | h) | h
      · exact .inl ⟨_, _, rfl, rfl, .inr (smallI_ok h), q'⟩
      · exact .inl ⟨_, _, rfl, rfl, .inl (smallI_ok h), q'⟩
      · exact .inr ⟨_, _, rfl, rfl, h, q'⟩
    · cases ho
  · cases ho
theorem o_fdiv : OpR X (binaryOp .FloorDiv) (r2D X.K fdivD) := OpR.imp op_fdivW fun x y H Q ⟨c, S, d, e, r, hr, hd, he, ho, q⟩ => by
  unfold fdivD at ho
  split at ho
  · split at ho
    · rename_i hs
      cases ho; rw [hd.int, he.int]; exact ⟨_, _, rfl, rfl, hs, q c H _ (Nx.refl hr) (.int _)⟩
    · cases ho
  · cases ho
theorem o_mod : OpR X (binaryOp .Mod) (r2D X.K modD) := OpR.imp op_mod fun x y H Q ⟨c, S, d, e, r, hr, hd, he, ho, q⟩ => by
  unfold modD at ho
  split at ho
  · split at ho
    · rename_i hs
      cases ho; rw [hd.int, he.int]; exact ⟨_, _, rfl, rfl, hs, q c H _ (Nx.refl hr) (.int _)⟩
    · cases ho
  · cases ho
theorem o_pow : OpR X (binaryOp .Pow) (r2D X.K powD) := OpR.imp op_pow fun x y H Q ⟨c, S, d, e, r, hr, hd, he, ho, q⟩ => by
  unfold powD at ho
  split at ho
  · split at ho
    · rename_i hs
      cases ho; rw [hd.int, he.int]; exact ⟨_, _, rfl, rfl, ⟨hs.1, hs.2.1, hs.2.2⟩, q c H _ (Nx.refl hr) (.int _)⟩
    · cases ho
  · cases ho
end
/-! ### comparisons -/
def eqB (a b : D) : Option Bool := match a, b with
  | .str x, .str y => some (x == y)
  | a, b => if SeqAt.shaped a && SeqAt.shaped b then some (PyData.eqv a b) else none
def eqD (a b : D) : Option D := (eqB a b).map .bool
def neD (a b : D) : Option D := (eqB a b).map fun k => .bool !k
def cmpD (p : Int → Int → Bool) : D → D → Option D
  | .int i, .int j => some (.bool (p i j))
  | _, _ => none
abbrev ltD := cmpD fun i j => decide (i < j)
abbrev leD := cmpD fun i j => decide (i ≤ j)
abbrev gtD := cmpD fun i j => decide (j < i)
abbrev geD := cmpD fun i j => decide (j ≤ i)
def isNo : D → Bool
  | .none => true
  | _ => false
def isD : D → D → Option D
  | x, .none => some (.bool (isNo x))
  | .bool a, .bool b => some (.bool (decide (a = b)))
  | _, _ => none
def isnD : D → D → Option D
  | x, .none => some (.bool (!isNo x))
  | .bool a, .bool b => some (.bool (!decide (a = b)))
  | _, _ => none
section
variable {K : PySem.W.Frag} {A : Addr → Prop} {H : Hp}
mutual
theorem Rep.dp : ∀ (d : D) (v : V), d.canLay0 = true → Rep A H d v → Dp K H v d
  | .none, _, _, h => by cases h; exact .non
  | .bool _, _, _, h => by cases h; exact .bl _
  | .int _, _, _, h => by cases h; exact .int _
  | .str _, _, _, h => by cases h; exact .str _
  | .tuple ds, _, s, h => by
    cases h with
    | tup h hl r => exact .tup (SqT.of h) (RepL.dp ds _ (by simpa [PyData.canLay0] using s) r)
  | .list ds, _, s, h => by
    cases h with
    | lst n h hl r => exact .lst (SqL.of h) (RepL.dp ds _ (by simpa [PyData.canLay0] using s) r)
  | .dict ds, _, s, h => by simp [PyData.canLay0] at s
theorem RepL.dp : ∀ (ds : List D) (vs : List V), PyData.canLayAll0 ds = true → RepL A H ds vs → DpAll K H vs ds
  | [], _, _, h => by cases h; exact .nil
  | d :: ds, _, s, h => by
    have s' : d.canLay0 = true ∧ PyData.canLayAll0 ds = true := by simpa [PyData.canLayAll0] using s
    cases h with
    | cons h1 h2 => exact .cons (Rep.dp d _ s'.1 h1) (RepL.dp ds _ s'.2 h2)
end
theorem LRep.dp {c : Cor Ω} {d : D} {u : V} (s : SeqAt.shaped d = true) (h : LRep c H d u) : Dp K H u d := by
  have s' : d.canLay0 = true := SeqAt.canLay_of_shaped s
  cases h with
  | of h => exact Rep.dp _ _ s' h
  | lst h1 h2 h3 => exact .lst (SqL.of h1) (RepL.dp _ _ (by simpa [PyData.canLay0] using s') h3)
  | dic h1 h2 h3 => simp [PyData.canLay0] at s'
end
section
variable {X : Cx}
theorem eqB_cases {a b : D} {k : Bool} (h : eqB a b = some k) : (∃ x y, a = .str x ∧ b = .str y ∧ k = (x == y)) ∨ (SeqAt.shaped a = true ∧ SeqAt.shaped b = true ∧ k = PyData.eqv a b) := by
  unfold eqB at h
  split at h
  · exact .inl ⟨_, _, rfl, rfl, (Option.some.inj h).symm⟩
  · split at h
    · rename_i hs
      rw [Bool.and_eq_true] at hs
      exact .inr ⟨hs.1, hs.2, (Option.some.inj h).symm⟩
    · cases h
theorem o_eq (hu : X.A.units + 64 < cLine) : OpR X (compareOp .Eq) (r2D X.K eqD) := OpR.imp (op_eq.or (op_eqD hu)) fun x y H Q ⟨c, S, d, e, r, hr, hd, he, ho, q⟩ => by
  obtain ⟨k, hk, rfl⟩ := Option.map_eq_some_iff.mp ho
  rcases eqB_cases hk with ⟨x, y, rfl, rfl, rfl⟩ | ⟨h1, h2, rfl⟩
  · rw [hd.str, he.str]; exact .inl ⟨rfl, by rw [dec_str]; exact q c H _ (Nx.refl hr) (.bl _)⟩
  · exact .inr ⟨d, e, hd.dp h1, he.dp h2, h1, h2, q c H _ (Nx.refl hr) (.bl _)⟩
theorem o_ne (hu : X.A.units + 64 < cLine) : OpR X (compareOp .NotEq) (r2D X.K neD) := OpR.imp (op_ne.or (op_neD hu)) fun x y H Q ⟨c, S, d, e, r, hr, hd, he, ho, q⟩ => by
  obtain ⟨k, hk, rfl⟩ := Option.map_eq_some_iff.mp ho
  rcases eqB_cases hk with ⟨x, y, rfl, rfl, rfl⟩ | ⟨h1, h2, rfl⟩
  · rw [hd.str, he.str]; exact .inl ⟨rfl, by rw [dec_str]; exact q c H _ (Nx.refl hr) (.bl _)⟩
  · exact .inr ⟨d, e, hd.dp h1, he.dp h2, h1, h2, q c H _ (Nx.refl hr) (.bl _)⟩
theorem cmpD_r {p : Int → Int → Bool} {x y : V} {H : Hp} {Q : VK} (h : r2D Ω (cmpD p) x y H Q) : rI0 (fun i j => .bl (p i j)) x y H Q := by
  obtain ⟨c, S, d, e, r, hr, hd, he, ho, q⟩ := h
  unfold cmpD at ho
  split at ho
  · cases ho; rw [hd.int, he.int]; exact ⟨_, _, rfl, rfl, q c H _ (Nx.refl hr) (.bl _)⟩
  · cases ho
theorem o_lt : OpR X (compareOp .Lt) (r2D X.K ltD) := OpR.imp op_lt fun _ _ _ _ h => cmpD_r h
theorem o_le : OpR X (compareOp .LtE) (r2D X.K leD) := OpR.imp op_le fun _ _ _ _ h => cmpD_r h
theorem o_gt : OpR X (compareOp .Gt) (r2D X.K gtD) := OpR.imp op_gt fun _ _ _ _ h => cmpD_r h
theorem o_ge : OpR X (compareOp .GtE) (r2D X.K geD) := OpR.imp op_ge fun _ _ _ _ h => cmpD_r h
theorem non_of {c : Cor Ω} {H : Hp} {d : D} {u : V} (h : LRep c H d u) : decide (u = .non) = isNo d := by
  cases h with
  | of h => cases h <;> rfl
  | lst _ _ _ => rfl
  | dic _ _ _ => rfl
theorem o_is : OpR X (compareOp .Is) (r2D X.K isD) := OpR.imp (op_isN.or op_is_bl) fun x y H Q ⟨c, S, d, e, r, hr, hd, he, ho, q⟩ => by
  unfold isD at ho
  split at ho
  · cases ho; rw [he.non]; exact .inl ⟨rfl, by rw [non_of hd]; exact q c H _ (Nx.refl hr) (.bl _)⟩
  · cases ho; rw [hd.bl, he.bl]; exact .inr ⟨_, _, rfl, rfl, q c H _ (Nx.refl hr) (.bl _)⟩
  · cases ho
theorem o_isn : OpR X (compareOp .IsNot) (r2D X.K isnD) := OpR.imp (op_notN.or op_isnot_bl) fun x y H Q ⟨c, S, d, e, r, hr, hd, he, ho, q⟩ => by
  unfold isnD at ho
  split at ho
  · cases ho; rw [he.non]; exact .inl ⟨rfl, by rw [non_of hd]; exact q c H _ (Nx.refl hr) (.bl _)⟩
  · cases ho; rw [hd.bl, he.bl]; exact .inr ⟨_, _, rfl, rfl, q c H _ (Nx.refl hr) (.bl _)⟩
  · cases ho
end
/-! ### in, index -/
def flatD : D → Bool
  | .none | .bool _ | .int _ | .str _ => true
  | _ => false
def flatEq : D → D → Bool
  | .none, .none => true
  | .bool a, .bool b => a == b
  | .bool a, .int b => (if a then 1 else 0) == b
  | .int a, .bool b => a == (if b then 1 else 0)
  | .int a, .int b => a == b
  | .str a, .str b => a == b
  | _, _ => false
def keyOf : D → Option Key
  | .int i => some (.inl i)
  | .str x => some (.inr x)
  | _ => none
/-- what a dict has at a key -/
def dget (kds : List (D × D)) (k : Key) : Option D := (kds.find? fun p => decide (keyOf p.1 = some k)).map (·.2)
def inB (x : D) : D → Option Bool
  | .list ys => if flatD x && ys.all flatD then some (ys.any fun y => flatEq y x) else if SeqAt.shaped x && SeqAt.shaped (.list ys) then some (ys.any fun y => PyData.eqv y x) else none
  | .tuple ys => if flatD x && ys.all flatD then some (ys.any fun y => flatEq y x) else if SeqAt.shaped x && SeqAt.shaped (.tuple ys) then some (ys.any fun y => PyData.eqv y x) else none
  | .dict kds => (keyOf x).map fun k => (dget kds k).isSome
  | .str z => match x with
    | .str ⟨⟨[c]⟩⟩ => some (decide (c ∈ z.cps.toList))
    | _ => none
  | _ => none
def inD (x y : D) : Option D := (inB x y).map .bool
def ninD (x y : D) : Option D := (inB x y).map fun k => .bool !k
section
variable {A : Addr → Prop} {H : Hp}
theorem keyOf_keyD (k : Key) : keyOf (keyD k) = some k := by cases k <;> rfl
theorem keyOf_eq {d : D} {k : Key} (h : keyOf d = some k) : d = keyD k := by
  unfold keyOf at h
  split at h <;> cases h <;> rfl
theorem rep_key {k : Key} {v : V} (h : Rep A H (keyD k) v) : v = kV k := by
  cases k <;> (cases h; rfl)
theorem rep_keyD (k : Key) : Rep A H (keyD k) (kV k) := by
  cases k with
  | inl i => exact .int i
  | inr x => exact .str x
theorem RepK.get (k : Key) : ∀ {kds : List (D × D)} {kvs : List (Key × V)}, RepK A H kds kvs → (∃ d v, dget kds k = some d ∧ valV kvs k = some v ∧ Rep A H d v) ∨ (dget kds k = none ∧ valV kvs k = none)
  | _, _, .nil => .inr ⟨rfl, rfl⟩
  | _, _, .cons (k := j) (d := d) (v := v) h r => by
    by_cases e : j = k
    · subst e
      exact .inl ⟨d, v, by simp [dget, List.find?_cons, keyOf_keyD], valV_pos rfl, h⟩
    · have e1 : ∀ ds, dget ((keyD j, d) :: ds) k = dget ds k := fun ds => by simp [dget, List.find?_cons, keyOf_keyD, e]
      rw [e1, valV_neg e]
      exact RepK.get k r
theorem flat_of {d : D} {v : V} (f : flatD d = true) (h : Rep A H d v) : flatV v = true := by
  cases h <;> first | rfl | cases f
theorem flatEq_of {d e : D} {v u : V} (f : flatD d = true) (g : flatD e = true) (h : Rep A H d v) (h' : Rep A H e u) : eqV v u = flatEq d e := by
  cases h <;> cases h' <;> first | rfl | cases f | cases g
theorem all_flat : ∀ {ds : List D} {vs : List V}, RepL A H ds vs → ds.all flatD = true → vs.all flatV = true
  | _, _, .nil, _ => rfl
  | _, _, .cons h r, f => by
    rw [List.all_cons, Bool.and_eq_true] at *
    exact ⟨flat_of f.1 h, all_flat r f.2⟩
theorem any_flat {x : D} {u : V} (fx : flatD x = true) (hx : Rep A H x u) : ∀ {ds : List D} {vs : List V}, RepL A H ds vs → ds.all flatD = true → inV u vs = ds.any fun y => flatEq y x
  | _, _, .nil, _ => rfl
  | _, _, .cons h r, f => by
    rw [List.all_cons, Bool.and_eq_true] at f
    have ih := any_flat fx hx r f.2
    unfold inV at *
    rw [List.any_cons, List.any_cons, ih, flatEq_of f.1 fx h hx]
theorem LRep.flat {c : Cor Ω} {d : D} {u : V} (f : flatD d = true) (h : LRep c H d u) : Rep c.A H d u := by
  cases h with
  | of h => exact h
  | lst _ _ _ => cases f
  | dic _ _ _ => cases f
end
section
variable {X : Cx}
theorem op_dIn (hu : X.A.units + 1 < cLine) : OpR X (compareOp .In) (fun y x H Q => ∃ a o, x = .ref a ∧ DGet H a y o ∧ Q (.bl o.isSome) H) := fun pins s σ H y x v u Q I ry rx ⟨a, o, e, g, q⟩ => by
  subst e
  obtain rfl : u = Value.ref a := rx
  exact d_in hu I g ry fun s' I' => ⟨.bl o.isSome, H, I', rfl, q⟩
theorem op_dNotIn (hu : X.A.units + 1 < cLine) : OpR X (compareOp .NotIn) (fun y x H Q => ∃ a o, x = .ref a ∧ DGet H a y o ∧ Q (.bl (!o.isSome)) H) := fun pins s σ H y x v u Q I ry rx ⟨a, o, e, g, q⟩ => by
  subst e
  obtain rfl : u = Value.ref a := rx
  exact d_notIn hu I g ry fun s' I' => ⟨.bl (!o.isSome), H, I', rfl, q⟩
def rInD (K : PySem.W.Frag) (neg : Bool) : R2 := fun x y H Q => ∃ d e ys, Dp K H x d ∧ Dp K H y e ∧ (e = .list ys ∨ e = .tuple ys) ∧ SeqAt.shaped d = true ∧ SeqAt.shaped e = true ∧ Q (.bl (if neg then !(ys.any fun z => PyData.eqv z d) else ys.any fun z => PyData.eqv z d)) H
theorem shaped_items {ys : List D} {e : D} (h : e = .list ys ∨ e = .tuple ys) (s : SeqAt.shaped e = true) : PyData.canLayAll0 ys = true ∧ PyData.depthAll ys ≤ 63 := by
  have h1 := SeqAt.canLay_of_shaped s
  have h2 := SeqAt.depth_of_shaped s
  rcases h with rfl | rfl
  · exact ⟨by simpa [PyData.canLay0] using h1, by simp [PyData.depth] at h2; omega⟩
  · exact ⟨by simpa [PyData.canLay0] using h1, by simp [PyData.depth] at h2; omega⟩
theorem op_inD (hu : X.A.units + 64 < cLine) : OpR X (compareOp .In) (rInD X.K false) := by
  intro pins s σ H x y v u Q I rx ry h
  obtain ⟨d, e, ys, hd, he, hs, sd, se, q⟩ := h
  obtain ⟨as, r1⟩ := Dp.reads I d x v hd rx
  obtain ⟨bs, r2⟩ := Dp.reads I e y u he ry
  obtain ⟨c1, c2⟩ := shaped_items hs se
  have c3 : X.A.units + 1 + min (PyData.depthAll ys) d.depth < cLine := by have := Nat.min_le_left (PyData.depthAll ys) d.depth; omega
  rcases hs with rfl | rfl
  · exact SeqAt.in_list_reads r2 r1 c1 (SeqAt.canLay_of_shaped sd) c3 ⟨.bl _, H, I, rfl, q⟩
  · exact SeqAt.in_tuple_reads r2 r1 c1 (SeqAt.canLay_of_shaped sd) c3 ⟨.bl _, H, I, rfl, q⟩
theorem op_ninD (hu : X.A.units + 64 < cLine) : OpR X (compareOp .NotIn) (rInD X.K true) := by
  intro pins s σ H x y v u Q I rx ry h
  obtain ⟨d, e, ys, hd, he, hs, sd, se, q⟩ := h
  obtain ⟨as, r1⟩ := Dp.reads I d x v hd rx
  obtain ⟨bs, r2⟩ := Dp.reads I e y u he ry
  obtain ⟨c1, c2⟩ := shaped_items hs se
  have c3 : X.A.units + 1 + min (PyData.depthAll ys) d.depth < cLine := by have := Nat.min_le_left (PyData.depthAll ys) d.depth; omega
  rcases hs with rfl | rfl
  · exact SeqAt.notIn_list_reads r2 r1 c1 (SeqAt.canLay_of_shaped sd) c3 ⟨.bl _, H, I, rfl, q⟩
  · exact SeqAt.notIn_tuple_reads r2 r1 c1 (SeqAt.canLay_of_shaped sd) c3 ⟨.bl _, H, I, rfl, q⟩
theorem inB_cases {K : PySem.W.Frag} {c : Cor Ω} {H : Hp} {x y : D} {u v : V} {k : Bool} (h : inB x y = some k) (hx : LRep c H x u) (hy : LRep c H y v) :
    (∃ p xs, v = .ref p ∧ (SqL K H p xs ∨ SqT K H p xs) ∧ flatV u = true ∧ xs.all flatV = true ∧ inV u xs = k) ∨ (∃ a o, v = .ref a ∧ DGet H a u o ∧ o.isSome = k) ∨ (∃ cc z, u = .str ⟨#[cc]⟩ ∧ v = .str z ∧ decide (cc ∈ z.cps.toList) = k) ∨ (∃ ys, (y = .list ys ∨ y = .tuple ys) ∧ SeqAt.shaped x = true ∧ SeqAt.shaped y = true ∧ (ys.any fun z => PyData.eqv z x) = k) := by
  unfold inB at h
  split at h
  · split at h
    · rename_i hf
      rw [Bool.and_eq_true] at hf
      cases h
      obtain ⟨a, vs, rfl, h1, h2, h3⟩ := hy.list
      exact .inl ⟨a, vs, rfl, .inl (SqL.of h1), flat_of hf.1 (hx.flat hf.1), all_flat h3 hf.2, any_flat hf.1 (hx.flat hf.1) h3 hf.2⟩
    · split at h
      · rename_i hf
        rw [Bool.and_eq_true] at hf
        cases h
        exact .inr (.inr (.inr ⟨_, .inl rfl, hf.1, hf.2, rfl⟩))
      · cases h
  · split at h
    · rename_i hf
      rw [Bool.and_eq_true] at hf
      cases h
      obtain ⟨a, vs, rfl, h1, h2, h3⟩ := hy.tup
      exact .inl ⟨a, vs, rfl, .inr (SqT.of h1), flat_of hf.1 (hx.flat hf.1), all_flat h3 hf.2, any_flat hf.1 (hx.flat hf.1) h3 hf.2⟩
    · split at h
      · rename_i hf
        rw [Bool.and_eq_true] at hf
        cases h
        exact .inr (.inr (.inr ⟨_, .inr rfl, hf.1, hf.2, rfl⟩))
      · cases h
  · obtain ⟨kk, h1, rfl⟩ := Option.map_eq_some_iff.mp h
    obtain ⟨a, vs, rfl, h2, h3, h4⟩ := hy.dict
    have e := keyOf_eq h1
    subst e
    have e2 : u = kV kk := rep_key (A := c.A) (H := H) (hx.flat (by cases kk <;> rfl))
    subst e2
    refine .inr (.inl ⟨a, valV vs kk, rfl, .inl ⟨vs, kk, h2, rfl, rfl⟩, ?_⟩)
    rcases h4.get kk with ⟨d, v, q1, q2, _⟩ | ⟨q1, q2⟩
    · rw [q1, q2]; rfl
    · rw [q1, q2]; rfl
  · split at h
    · cases h
      rw [hx.str, hy.str]
      exact .inr (.inr (.inl ⟨_, _, rfl, rfl, rfl⟩))
    · cases h
  · cases h
theorem o_in (hu : X.A.units + 64 < cLine) : OpR X (compareOp .In) (r2D X.K inD) := OpR.imp (op_in_seq.or ((op_dIn (by omega)).or (op_in_sign.or (op_inD hu)))) fun x y H Q ⟨c, S, d, e, r, hr, hd, he, ho, q⟩ => by
  obtain ⟨k, hk, rfl⟩ := Option.map_eq_some_iff.mp ho
  have q' := q c H _ (Nx.refl hr) (.bl _)
  rcases inB_cases (K := X.K) hk hd he with ⟨p, xs, h1, h2, h3, h4, h5⟩ | ⟨a, o, h1, h2, h3⟩ | ⟨cc, z, h1, h2, h3⟩ | ⟨ys, h1, h2, h3, h4⟩
  · exact .inl ⟨p, xs, h1, h2, h3, h4, by simp only [Bool.false_eq_true, if_false]; rw [h5]; exact q'⟩
  · exact .inr (.inl ⟨a, o, h1, h2, by rw [h3]; exact q'⟩)
  · exact .inr (.inr (.inl ⟨cc, z, h1, h2, by rw [h3]; exact q'⟩))
  · exact .inr (.inr (.inr ⟨d, e, ys, hd.dp h2, he.dp h3, h1, h2, h3, by simp only [Bool.false_eq_true, if_false, if_true]; rw [h4]; exact q'⟩))
theorem o_nin (hu : X.A.units + 64 < cLine) : OpR X (compareOp .NotIn) (r2D X.K ninD) := OpR.imp (op_notIn_seq.or ((op_dNotIn (by omega)).or (op_notIn_sign.or (op_ninD hu)))) fun x y H Q ⟨c, S, d, e, r, hr, hd, he, ho, q⟩ => by
  obtain ⟨k, hk, rfl⟩ := Option.map_eq_some_iff.mp ho
  have q' := q c H _ (Nx.refl hr) (.bl _)
  rcases inB_cases (K := X.K) hk hd he with ⟨p, xs, h1, h2, h3, h4, h5⟩ | ⟨a, o, h1, h2, h3⟩ | ⟨cc, z, h1, h2, h3⟩ | ⟨ys, h1, h2, h3, h4⟩
  · exact .inl ⟨p, xs, h1, h2, h3, h4, by simp only [if_true]; rw [h5]; exact q'⟩
  · exact .inr (.inl ⟨a, o, h1, h2, by rw [h3]; exact q'⟩)
  · exact .inr (.inr (.inl ⟨cc, z, h1, h2, by rw [h3]; exact q'⟩))
  · exact .inr (.inr (.inr ⟨d, e, ys, hd.dp h2, he.dp h3, h1, h2, h3, by simp only [Bool.false_eq_true, if_false, if_true]; rw [h4]; exact q'⟩))
end
end DL

namespace DL
open PySem PySem.Spec PyProof.Rows L2
/-! ### index -/
def ixD : D → D → Option D
  | .list xs, .int i => atI xs i
  | .tuple xs, .int i => atI xs i
  | .str z, .int i => if z.length ≤ sizeLine then (atI z.cps.toList i).map fun c => .str ⟨#[c]⟩ else none
  | .dict kds, k => (keyOf k).bind (dget kds)
  | _, _ => none
def op2R (op : D → D → Option D) (v w : Val) (S : Sto) : R Val := ofO ((lookR S v).bind fun x => (look S w).bind fun y => op x y) S
def eIx (fa fb : Ex) : Ex := fun ρ S => (fa ρ S).bind fun v S1 => (fb ρ S1).bind fun w S2 => op2R ixD v w S2
def r2R (Ω : PySem.W.Frag) (op : D → D → Option D) : R2 := fun x y H Q => ∃ (c : Cor Ω) (S : Sto) (d e r : D), Rel c S H ∧ LRepR c H d x ∧ LRep c H e y ∧ op d e = some r ∧ ∀ c' H' u, Nx c S H c' S H' → Rep c'.A H' r u → Q u H'
theorem RepL.atI {A : Addr → Prop} {H : Hp} {ds : List D} {vs : List V} (r : RepL A H ds vs) {i : Int} {d : D} (h : L2.atI ds i = some d) : ∃ v, L2.atI vs i = some v ∧ Rep A H d v := by
  unfold L2.atI at *
  rw [← r.length]
  cases e : ixN ds.length i with
  | none => rw [e] at h; cases h
  | some j =>
    rw [e] at h
    obtain ⟨v, h1, h2⟩ := r.get (show ds[j]? = some d from h)
    exact ⟨v, h1, h2⟩
section
variable {X : Cx} {W : WX}
theorem op2R_r {mg : Str → Option Value} {op : D → D → Option D} {c : Cor Ω} {S : Sto} {H : Hp} {σ : L2.St} {v w : Val} {x y : V} {Q : VK} (hr : Rel c S H) (hv : VRep c H v x) (hw : VRep c H w y)
    (h : Aft mg W c S σ H (op2R op v w S) fun v c' _ H' => ∀ u, VRep c' H' v u → Q u H') : r2R Ω op x y H Q := by
  unfold op2R at h
  cases e1 : lookR S v with
  | none => rw [e1] at h; exact h.elim
  | some d =>
    cases e2 : look S w with
    | none => rw [e1, e2] at h; exact h.elim
    | some e =>
      cases e3 : op d e with
      | none => simp only [e1, e2, e3, Option.bind] at h; exact h.elim
      | some r =>
        simp only [e1, e2, e3, Option.bind] at h
        exact ⟨c, S, d, e, r, hr, lookR_rep hr hv e1, look_rep hr hw e2, e3, fun c' H' u x1 hu => h c' H' x1 u hu⟩
theorem ix_dict (hu : X.A.units + 1 < cLine) : IxR X (fun x y H Q => ∃ a v, x = .ref a ∧ DGet H a y (some v) ∧ Q v H) := by
  intro value slice pins s σ H x y v u Q I rx ry h hs
  obtain ⟨a, z, rfl, g, q⟩ := h
  obtain rfl : v = Value.ref a := rx
  exact tail_any (dict_typeIs I g) PySem.F.slot_dict_getitem.lookup (d_getItem hu I g ry fun w' s3 I3 rw' => ⟨z, H, I3, rw', q⟩) hs
theorem o_ix (hu : X.A.units + 1 < cLine) : IxR X (r2R X.K ixD) := IxR.imp (ix_list.or (ix_tup.or (ix_str.or (ix_dict hu)))) fun x y H Q ⟨c, S, d, e, r, hr, hd, he, ho, q⟩ => by
  unfold ixD at ho
  split at ho
  · obtain ⟨a, vs, rfl, h1, h2, h3⟩ := hd.list
    obtain ⟨v, h4, h5⟩ := h3.atI ho
    rw [he.int]
    exact .inl ⟨a, vs, _, v, rfl, rfl, h1, h4, q c H v (Nx.refl hr) h5⟩
  · obtain ⟨a, vs, rfl, h1, h2, h3⟩ := (hd.plain (fun _ z => by cases z)).tup
    obtain ⟨v, h4, h5⟩ := h3.atI ho
    rw [he.int]
    exact .inr (.inl ⟨a, vs, _, v, rfl, rfl, SqT.of h1, h4, q c H v (Nx.refl hr) h5⟩)
  · split at ho
    · rename_i hl
      obtain ⟨cc, h1, rfl⟩ := Option.map_eq_some_iff.mp ho
      rw [he.int, (hd.plain (fun _ z => by cases z)).str]
      exact .inr (.inr (.inl ⟨_, _, cc, rfl, rfl, hl, h1, q c H _ (Nx.refl hr) (.str _)⟩))
    · cases ho
  · obtain ⟨k, h1, h2⟩ := Option.bind_eq_some_iff.mp ho
    obtain ⟨a, vs, rfl, h3, h4, h5⟩ := (hd.plain (fun _ z => by cases z)).dict
    have e := keyOf_eq h1
    subst e
    have e2 : y = kV k := rep_key (A := c.A) (H := H) (he.flat (by cases k <;> rfl))
    subst e2
    rcases h5.get k with ⟨d, v, q1, q2, q3⟩ | ⟨q1, q2⟩
    · rw [q1] at h2; cases h2
      exact .inr (.inr (.inr ⟨a, v, rfl, .inl ⟨vs, k, h3, rfl, q2.symm⟩, q c H v (Nx.refl hr) q3⟩))
    · rw [q1] at h2; cases h2
  · cases ho
theorem se_ix (hu : X.A.units + 1 < cLine) {a b : Expr} {fa fb : Ex} {pos : Pos} (ha : SE X W a fa) (hb : SE X W b fb) (hs : PlainIx b) : SE X W (.Subscript a b pos) (eIx fa fb) :=
  PE.imp (pe_ix (o_ix hu) ha hb hs) fun σ H Q ⟨c, ρ, S, hr, he, q⟩ => two hr he q fun v w c2 S2 H2 x y x1 hv hw h => op2R_r x1.rel hv hw h
end
/-! ### slices -/
abbrev Po := Ev → Sto → R (Option Int)
def pNone : Po := fun _ S => .ok none S
def pSome (f : Ex) : Po := fun ρ S => (f ρ S).bind fun v S1 => match v with
  | .d (.int i) => .ok (some i) S1
  | _ => .bad
def tO (Ω : PySem.W.Frag) (mg : Str → Option Value) (W : WX) (f : Po) : TO := fun σ H Q => ∃ (c : Cor Ω) (ρ : Ev) (S : Sto), Rel c S H ∧ RepE c H ρ σ ∧ Aft mg W c S σ H (f ρ S) fun o _ _ H' => Q o H'
def cutD {α : Type} (xs : List α) (lo hi : Option Int) : List α := (xs.drop (HT.sIx xs.length 0 lo)).take (HT.sIx xs.length xs.length hi - HT.sIx xs.length 0 lo)
def slD (lo hi : Option Int) : D → Option D
  | .list xs => some (.list (cutD xs lo hi))
  | .tuple xs => some (.tuple (cutD xs lo hi))
  | .str z => if z.length ≤ sizeLine then some (.str (cutS z lo hi)) else none
  | _ => none
def eSl (fe : Ex) (fl fh : Po) : Ex := fun ρ S => (fe ρ S).bind fun v S1 => (fl ρ S1).bind fun l S2 => (fh ρ S2).bind fun h S3 => ofO ((lookR S3 v).bind (slD l h)) S3
section
variable {X : Cx} {W : WX}
abbrev SO (X : Cx) (W : WX) (e : Option Expr) (f : Po) : Prop := PO X e (tO X.K X.mg W f)
theorem so_none : SO X W none pNone := ⟨fun pins s σ H Q I h => po_none.run pins s σ H Q I (by obtain ⟨c, ρ, S, hr, he, q⟩ := h; exact q c H (Nx.refl hr))⟩
theorem so_some {e : Expr} {f : Ex} (h : SE X W e f) : SO X W (some e) (pSome f) := ⟨fun pins s σ H Q I hh => (po_some h).run pins s σ H Q I (by
  obtain ⟨c, ρ, S, hr, he, q⟩ := hh
  refine ⟨c, ρ, S, hr, he, (Aft.bind hr q).mono fun v c1 S1 H1 x1 h1 u hu => ?_⟩
  split at h1
  · cases hu; exact ⟨_, rfl, h1 c1 H1 (Nx.refl x1.rel)⟩
  · exact h1.elim)⟩
theorem RepL.cut {A : Addr → Prop} {H : Hp} {ds : List D} {vs : List V} (r : RepL A H ds vs) (lo hi : Option Int) : RepL A H (cutD ds lo hi) (cutV vs lo hi) := by
  unfold cutD cutV
  rw [r.length]
  exact (r.drop _).take _
theorem cut_all {α : Type} (xs : List α) {lo hi : Option Int} (h : HT.sIx xs.length 0 lo = 0 ∧ HT.sIx xs.length xs.length hi = xs.length) : cutD xs lo hi = xs := by
  unfold cutD
  rw [h.1, h.2]
  simp
theorem se_sl {e : Expr} {lo hi : Option Expr} {fe : Ex} {fl fh : Po} {p2 pos : Pos} (he : SE X W e fe) (hl : SO X W lo fl) (hh : SO X W hi fh) : SE X W (.Subscript e (.Slice lo hi none p2) pos) (eSl fe fl fh) :=
  PE.imp (pe_slice (sl_list.or (sl_tupA.or sl_str)) he hl hh) fun σ H Q ⟨c, ρ, S, hr, he, q⟩ => by
    refine ⟨c, ρ, S, hr, he, (Aft.bind hr q).mono fun v c1 S1 H1 x1 h1 u hu => ?_⟩
    refine ⟨c1, ρ, S1, x1.rel, he.keep hr x1, (Aft.bind x1.rel h1).mono fun l c2 S2 H2 x2 h2 => ?_⟩
    refine ⟨c2, ρ, S2, x2.rel, (he.keep hr x1).keep x1.rel x2, (Aft.bind x2.rel h2).mono fun h c3 S3 H3 x3 h3 => ?_⟩
    have hv : VRep c3 H3 v u := (hu.keep x1.rel x2).keep x2.rel x3
    have hr3 := x3.rel
    cases e1 : lookR S3 v with
    | none => rw [e1] at h3; exact h3.elim
    | some d =>
      have hd := lookR_rep hr3 hv e1
      cases e2 : slD l h d with
      | none => simp only [e1, e2, Option.bind] at h3; exact h3.elim
      | some r =>
        simp only [e1, e2, Option.bind] at h3
        have q' : ∀ c' H' u, Nx c3 S3 H3 c' S3 H' → Rep c'.A H' r u → Q u H' := fun c' H' u x4 hu => h3 c' H' x4 u hu
        unfold slD at e2
        split at e2
        · cases e2
          obtain ⟨a, vs, rfl, g1, g2, g3⟩ := hd.list
          exact .inl ⟨a, vs, rfl, g1, fun p hp => q' c3 _ _ (Nx.new hr3 hp) (Rep.newLst hr3 hp (g3.cut l h) (Nat.le_trans (cutV_length _ _ _) g2))⟩
        · cases e2
          obtain ⟨a, vs, rfl, g1, g2, g3⟩ := (hd.plain (fun _ z => by cases z)).tup
          refine .inr (.inl ⟨a, vs, rfl, SqT.of g1, fun hw => ?_, fun _ p hp => ?_⟩)
          · rw [← g3.length] at hw
            rw [cut_all _ hw] at q'
            exact q' c3 H3 _ (Nx.refl hr3) (.tup g1 g2 g3)
          · exact q' c3 _ _ (Nx.new hr3 hp) (Rep.newTup hr3 hp (g3.cut l h) (Nat.le_trans (cutV_length _ _ _) g2))
        · split at e2
          · rename_i hz
            cases e2
            rw [(hd.plain (fun _ z => by cases z)).str]
            exact .inr (.inr ⟨_, rfl, hz, q' c3 H3 _ (Nx.refl hr3) (.str _)⟩)
          · cases e2
        · cases e2
end
/-! ### argument lists, displays -/
def aNil : La := fun _ S => .ok [] S
def aCons (f : Ex) (g : La) : La := fun ρ S => (f ρ S).bind fun v S1 => (g ρ S1).bind fun vs S2 => .ok (v :: vs) S2
section
variable {X : Cx} {W : WX}
theorem sa_nil : SA X W [] aNil := PA.imp pa_nil fun σ H Q ⟨c, ρ, S, hr, he, q⟩ => q c H (Nx.refl hr) [] .nil
theorem sa_cons {e : Expr} {es : List Expr} {f : Ex} {g : La} (ha : SE X W e f) (hr : SA X W es g) (hs : starEach (e :: es) X.env = (false, eval e X.env) :: starEach es X.env := by rfl) : SA X W (e :: es) (aCons f g) :=
  PA.imp (pa_cons ha hr hs) fun σ H Q ⟨c, ρ, S, hr, he, q⟩ => by
    refine ⟨c, ρ, S, hr, he, (Aft.bind hr q).mono fun v c1 S1 H1 x1 h1 u hu => ?_⟩
    refine ⟨c1, ρ, S1, x1.rel, he.keep hr x1, (Aft.bind x1.rel h1).mono fun vs c2 S2 H2 x2 h2 us hus => ?_⟩
    exact h2 c2 H2 (Nx.refl x2.rel) (u :: us) (.cons (hu.keep x1.rel x2) hus)
/-- all are data -/
def allD : List Val → Option (List D)
  | [] => some []
  | .d x :: r => (allD r).map (x :: ·)
  | _ :: _ => none
theorem allD_rep {c : Cor Ω} {H : Hp} : ∀ {vs : List Val} {us : List V} {ds : List D}, VRepL c H vs us → allD vs = some ds → RepL c.A H ds us
  | _, _, _, .nil, e => by cases e; exact .nil
  | _, _, _, .cons (x := .d x) h r, e => by
    obtain ⟨es, h1, rfl⟩ := Option.map_eq_some_iff.mp (show (allD _).map (x :: ·) = some _ from e)
    exact .cons h (allD_rep r h1)
  | _, _, _, .cons (x := .loc _) h r, e => by cases e
  | _, _, _, .cons (x := .scr _) h r, e => by cases e
def mkSeq (mk : List D → D) (vs : List Val) (S : Sto) : R Val := match allD vs with
  | some ds => if ds.length ≤ 1000 then .ok (.d (mk ds)) S else .bad
  | none => .bad
def eTup (f : La) : Ex := fun ρ S => (f ρ S).bind (mkSeq .tuple)
def eLst (f : La) : Ex := fun ρ S => (f ρ S).bind (mkSeq .list)
theorem mkSeq_r {mg : Str → Option Value} {mk : List D → D} {vs : List Val} {us : List V} {c : Cor Ω} {S : Sto} {H : Hp} {σ : L2.St} {k : Val → Cor Ω → Sto → Hp → Prop} (hv : VRepL c H vs us) (h : Aft mg W c S σ H (mkSeq mk vs S) k) :
    ∃ ds, RepL c.A H ds us ∧ us.length ≤ sizeLine ∧ ∀ c' H', Nx c S H c' S H' → k (.d (mk ds)) c' S H' := by
  unfold mkSeq at h
  split at h
  · rename_i ds e
    split at h
    · rename_i hl
      have r := allD_rep hv e
      exact ⟨ds, r, by rw [← r.length, sizeLine_eq]; omega, fun c' H' x => h c' H' x⟩
    · exact h.elim
  · exact h.elim
theorem se_tup {es : List Expr} {f : La} {x1} {pos : Pos} (h : SA X W es f) : SE X W (.Tuple es x1 pos) (eTup f) := PE.imp (pe_tup h) fun σ H Q ⟨c, ρ, S, hr, he, q⟩ => by
  refine ⟨c, ρ, S, hr, he, (Aft.bind hr q).mono fun vs c1 S1 H1 x1 h1 us hus => ?_⟩
  obtain ⟨ds, r, hl, q⟩ := mkSeq_r hus h1
  exact ⟨hl, fun p hp => q c1 _ (Nx.new x1.rel hp) _ (Rep.newTup x1.rel hp r hl)⟩
theorem se_lst {es : List Expr} {f : La} {pos : Pos} (h : SA X W es f) : SE X W (.List es pos) (eLst f) := PE.imp (pe_lst h) fun σ H Q ⟨c, ρ, S, hr, he, q⟩ => by
  refine ⟨c, ρ, S, hr, he, (Aft.bind hr q).mono fun vs c1 S1 H1 x1 h1 us hus => ?_⟩
  obtain ⟨ds, r, hl, q⟩ := mkSeq_r hus h1
  exact ⟨hl, fun p hp => q c1 _ (Nx.new x1.rel hp) _ (Rep.newLst x1.rel hp r hl)⟩
end
/-! ### truth, tests -/
def truthD : D → Option Bool
  | .none => some false
  | .bool b => some b
  | .int i => some (i != 0)
  | .str x => if x.length ≤ sizeLine then some ((x.length : Int) != 0) else none
  | .list xs => some (!xs.isEmpty)
  | .tuple xs => some (!xs.isEmpty)
  | .dict _ => none
def truV (v : Val) (S : Sto) : R Bool := match (look S v).bind truthD with
  | some b => .ok b S
  | none => .bad
def tTru (f : Ex) : Te := fun ρ S => (f ρ S).bind truV
def tNotE (f : Te) : Te := fun ρ S => (f ρ S).bind fun b S1 => .ok (!b) S1
def tAndE (f g : Te) : Te := fun ρ S => (f ρ S).bind fun b S1 => match b with
  | true => g ρ S1
  | false => .ok false S1
def tOrE (f g : Te) : Te := fun ρ S => (f ρ S).bind fun b S1 => match b with
  | true => .ok true S1
  | false => g ρ S1
def ofB (f : Te) : Ex := fun ρ S => (f ρ S).bind fun b S1 => .ok (.d (.bool b)) S1
def eAnd (f g : Ex) : Ex := fun ρ S => (f ρ S).bind fun v S1 => match v with
  | .d (.bool true) => g ρ S1
  | .d (.bool false) => .ok (.d (.bool false)) S1
  | _ => .bad
def eOr (f g : Ex) : Ex := fun ρ S => (f ρ S).bind fun v S1 => match v with
  | .d (.bool true) => .ok (.d (.bool true)) S1
  | .d (.bool false) => g ρ S1
  | _ => .bad
def eNot (f : Ex) : Ex := fun ρ S => (f ρ S).bind fun v S1 => match v with
  | .d (.bool b) => .ok (.d (.bool (!b))) S1
  | _ => .bad
def eIf (t : Te) (f g : Ex) : Ex := fun ρ S => (t ρ S).bind fun b S1 => match b with
  | true => f ρ S1
  | false => g ρ S1
def eNeg (f : Ex) : Ex := fun ρ S => (f ρ S).bind fun v S1 => match v with
  | .d (.int i) => .ok (.d (.int (-i))) S1
  | _ => .bad
section
variable {X : Cx} {W : WX} {a b : Expr} {pos : Pos} {rest : List Expr}
theorem isEmpty_len {α β : Type} {xs : List α} {ys : List β} (h : xs.length = ys.length) : xs.isEmpty = ys.isEmpty := by
  cases xs <;> cases ys <;> first | rfl | simp at h
theorem truthD_ok {K : PySem.W.Frag} {c : Cor Ω} {H : Hp} {d : D} {u : V} {k : Bool} (h : LRep c H d u) (e : truthD d = some k) : TruV K u H k := by
  unfold truthD at e
  split at e
  · rw [h.non]; exact (Option.some.inj e).symm
  · rw [h.bl]; exact (Option.some.inj e).symm
  · rw [h.int]; exact (Option.some.inj e).symm
  · split at e
    · rename_i hl; rw [h.str]; exact ⟨hl, (Option.some.inj e).symm⟩
    · cases e
  · obtain ⟨a, vs, rfl, h1, h2, h3⟩ := h.list
    exact .inl ⟨vs, SqL.of h1, by rw [← isEmpty_len h3.length]; exact (Option.some.inj e).symm⟩
  · obtain ⟨a, vs, rfl, h1, h2, h3⟩ := h.tup
    exact .inr (.inl ⟨vs, SqT.of h1, by rw [← isEmpty_len h3.length]; exact (Option.some.inj e).symm⟩)
  · cases e
theorem st_tru {f : Ex} (h : SE X W a f) (he : ∀ whole, isTrue a X.env whole = (do let v ← whole; standAt a.pos; holding [v] (truthy v)) := by intro _; rfl) : ST X W a (tTru f) :=
  PT.imp (pt_truth h he) fun σ H Q ⟨c, ρ, S, hr, he, q⟩ => by
    refine ⟨c, ρ, S, hr, he, (Aft.bind hr q).mono fun v c1 S1 H1 x1 h1 u hu => ?_⟩
    unfold truV at h1
    split at h1
    · rename_i b e
      obtain ⟨d, e1, e2⟩ := Option.bind_eq_some_iff.mp e
      exact ⟨b, truthD_ok (look_rep x1.rel hu e1) e2, h1 c1 H1 (Nx.refl x1.rel)⟩
    · exact h1.elim
theorem st_not {f : Te} (h : ST X W a f) : ST X W (.UnaryOp .Not a pos) (tNotE f) := PT.imp (pt_not h) fun σ H Q ⟨c, ρ, S, hr, he, q⟩ =>
  ⟨c, ρ, S, hr, he, (Aft.bind hr q).mono fun v c1 S1 H1 x1 h1 => h1 c1 H1 (Nx.refl x1.rel)⟩
theorem sw_and1 {f : Te} (h : ST X W a f) : SW X W (.BoolOp .And [a] pos) f := pw_and1 h
theorem sw_or1 {f : Te} (h : ST X W a f) : SW X W (.BoolOp .Or [a] pos) f := pw_or1 h
theorem sw_and {f g : Te} (h : ST X W a f) (h' : SW X W (.BoolOp .And (b :: rest) pos) g) : SW X W (.BoolOp .And (a :: b :: rest) pos) (tAndE f g) := PW.imp (pw_and h h') fun σ H Q ⟨c, ρ, S, hr, he, q⟩ => by
  refine ⟨c, ρ, S, hr, he, (Aft.bind hr q).mono fun v c1 S1 H1 x1 h1 => ?_⟩
  cases v with
  | true => exact iteT ⟨c1, ρ, S1, x1.rel, he.keep hr x1, h1⟩
  | false => exact iteF (h1 c1 H1 (Nx.refl x1.rel))
theorem sw_or {f g : Te} (h : ST X W a f) (h' : SW X W (.BoolOp .Or (b :: rest) pos) g) : SW X W (.BoolOp .Or (a :: b :: rest) pos) (tOrE f g) := PW.imp (pw_or h h') fun σ H Q ⟨c, ρ, S, hr, he, q⟩ => by
  refine ⟨c, ρ, S, hr, he, (Aft.bind hr q).mono fun v c1 S1 H1 x1 h1 => ?_⟩
  cases v with
  | true => exact iteT (h1 c1 H1 (Nx.refl x1.rel))
  | false => exact iteF ⟨c1, ρ, S1, x1.rel, he.keep hr x1, h1⟩
theorem se_one {op} {f : Ex} (h : SE X W a f) : SE X W (.BoolOp op [a] pos) f := pe_one h
theorem se_and {f g : Ex} (h : SE X W a f) (h' : SE X W (.BoolOp .And (b :: rest) pos) g) : SE X W (.BoolOp .And (a :: b :: rest) pos) (eAnd f g) := PE.imp (pe_and h h') fun σ H Q ⟨c, ρ, S, hr, he, q⟩ => by
  refine ⟨c, ρ, S, hr, he, (Aft.bind hr q).mono fun v c1 S1 H1 x1 h1 u hu => ?_⟩
  split at h1
  · cases hu; exact ⟨true, rfl, iteT ⟨c1, ρ, S1, x1.rel, he.keep hr x1, h1⟩⟩
  · cases hu; exact ⟨false, rfl, iteF (h1 c1 H1 (Nx.refl x1.rel) _ (.bl _))⟩
  · exact h1.elim
theorem se_or {f g : Ex} (h : SE X W a f) (h' : SE X W (.BoolOp .Or (b :: rest) pos) g) : SE X W (.BoolOp .Or (a :: b :: rest) pos) (eOr f g) := PE.imp (pe_or h h') fun σ H Q ⟨c, ρ, S, hr, he, q⟩ => by
  refine ⟨c, ρ, S, hr, he, (Aft.bind hr q).mono fun v c1 S1 H1 x1 h1 u hu => ?_⟩
  split at h1
  · cases hu; exact ⟨true, rfl, iteT (h1 c1 H1 (Nx.refl x1.rel) _ (.bl _))⟩
  · cases hu; exact ⟨false, rfl, iteF ⟨c1, ρ, S1, x1.rel, he.keep hr x1, h1⟩⟩
  · exact h1.elim
theorem se_not {f : Ex} (h : SE X W a f) : SE X W (.UnaryOp .Not a pos) (eNot f) := PE.imp (pe_not h) fun σ H Q ⟨c, ρ, S, hr, he, q⟩ => by
  refine ⟨c, ρ, S, hr, he, (Aft.bind hr q).mono fun v c1 S1 H1 x1 h1 u hu => ?_⟩
  split at h1
  · cases hu; exact ⟨_, rfl, h1 c1 H1 (Nx.refl x1.rel) _ (.bl _)⟩
  · exact h1.elim
theorem se_if {t : Te} {f g : Ex} {cc : Expr} (ht : ST X W cc t) (hf : SE X W a f) (hg : SE X W b g) : SE X W (.IfExp cc a b pos) (eIf t f g) := PE.imp (pe_ifExp ht hf hg) fun σ H Q ⟨c, ρ, S, hr, he, q⟩ => by
  refine ⟨c, ρ, S, hr, he, (Aft.bind hr q).mono fun v c1 S1 H1 x1 h1 => ?_⟩
  cases v with
  | true => exact iteT ⟨c1, ρ, S1, x1.rel, he.keep hr x1, h1⟩
  | false => exact iteF ⟨c1, ρ, S1, x1.rel, he.keep hr x1, h1⟩
theorem se_neg {f : Ex} (h : SE X W a f) : SE X W (.UnaryOp .USub a pos) (eNeg f) := PE.imp (pe_un un_neg h) fun σ H Q ⟨c, ρ, S, hr, he, q⟩ => by
  refine ⟨c, ρ, S, hr, he, (Aft.bind hr q).mono fun v c1 S1 H1 x1 h1 u hu => ?_⟩
  split at h1
  · cases hu; exact ⟨_, rfl, h1 c1 H1 (Nx.refl x1.rel) _ (.int _)⟩
  · exact h1.elim
/-- a < b < c -/
def eChain (op op' : D → D → Option D) (fa fb fc : Ex) : Ex := fun ρ S => (fa ρ S).bind fun v S1 => (fb ρ S1).bind fun w S2 => (op2 op v w S2).bind fun z S3 => match z with
  | .d (.bool true) => (fc ρ S3).bind fun x S4 => op2 op' w x S4
  | .d (.bool false) => .ok (.d (.bool false)) S3
  | _ => .bad
theorem chain_r {mg : Str → Option Value} {op op' : D → D → Option D} {fa fb fc : Ex} {σ : L2.St} {H : Hp} {Q : VK} (h : tE Ω mg W (eChain op op' fa fb fc) σ H Q) : tChain (r2D Ω op) (r2D Ω op') (tE Ω mg W fa) (tE Ω mg W fb) (tE Ω mg W fc) σ H Q := by
  obtain ⟨c, ρ, S, hr, he, q⟩ := h
  refine two hr he q fun v w c2 S2 H2 x y x1 hv hw h => ?_
  refine op2_r x1.rel hv hw ((Aft.bind x1.rel h).mono fun z c3 S3 H3 x3 h3 u hu => ?_)
  split at h3
  · cases hu
    refine ⟨true, rfl, iteT ⟨c3, ρ, S3, x3.rel, (he.keep hr x1).keep x1.rel x3, (Aft.bind x3.rel h3).mono fun z4 c4 S4 H4 x4 h4 u4 hu4 => ?_⟩⟩
    exact op2_r x4.rel ((hw.keep x1.rel x3).keep x3.rel x4) hu4 h4
  · cases hu; exact ⟨false, rfl, iteF (h3 c3 H3 (Nx.refl x3.rel) _ (.bl _))⟩
  · exact h3.elim
theorem se_chain {o o' : CmpOp} {op op' : D → D → Option D} {cc : Expr} {fa fb fc : Ex} (h1 : OpR X (compareOp o) (r2D X.K op)) (h2 : OpR X (compareOp o') (r2D X.K op')) (ha : SE X W a fa) (hb : SE X W b fb) (hc : SE X W cc fc)
    (hm : lastMarks [o, o'] [b, cc] = false := by with_unfolding_all rfl) : SE X W (.Compare a [o, o'] [b, cc] pos) (eChain op op' fa fb fc) := PE.imp (pe_chain h1 h2 ha hb hc hm) fun σ H Q h => chain_r h
theorem tOf_r {mg : Str → Option Value} {f : Ex} {σ : L2.St} {H : Hp} {Q : Bool → Hp → Prop} (h : tT Ω mg W (tOf f) σ H Q) : tE Ω mg W f σ H fun x H' => ∃ k, x = .bl k ∧ Q k H' := by
  obtain ⟨c, ρ, S, hr, he, q⟩ := h
  exact ⟨c, ρ, S, hr, he, (Aft.bind hr q).mono fun v c1 S1 H1 x1 h1 u hu => let ⟨b, _, e, q⟩ := asB_r x1.rel hu h1; ⟨b, e, q⟩⟩
theorem st_chain {o o' : CmpOp} {op op' : D → D → Option D} {cc : Expr} {fa fb fc : Ex} (h1 : OpR X (compareOp o) (r2D X.K op)) (h2 : OpR X (compareOp o') (r2D X.K op')) (ha : SE X W a fa) (hb : SE X W b fb) (hc : SE X W cc fc)
    (hm : lastMarks [o, o'] [b, cc] = false := by with_unfolding_all rfl) : ST X W (.Compare a [o, o'] [b, cc] pos) (tOf (eChain op op' fa fb fc)) := PT.imp (pt_chain h1 h2 ha hb hc hm) fun σ H Q h => chain_r (tOf_r h)
end
end DL

namespace DL
open PySem PySem.Spec PyProof.Rows L2
/-! ### calls of built-ins -/
def lookAll (S : Sto) : List Val → Option (List D)
  | [] => some []
  | v :: r => (lookR S v).bind fun x => (lookAll S r).map (x :: ·)
inductive LRL (c : Cor Ω) (H : Hp) : List D → List V → Prop
  | nil : LRL c H [] []
  | cons {d : D} {v : V} {ds : List D} {vs : List V} : LRepR c H d v → LRL c H ds vs → LRL c H (d :: ds) (v :: vs)
theorem lookAll_rep {c : Cor Ω} {S : Sto} {H : Hp} (r : Rel c S H) : ∀ {vs : List Val} {us : List V} {ds : List D}, VRepL c H vs us → lookAll S vs = some ds → LRL c H ds us
  | _, _, _, .nil, e => by cases e; exact .nil
  | _, _, _, .cons h t, e => by
    obtain ⟨x, e1, e2⟩ := Option.bind_eq_some_iff.mp (show (lookR S _).bind _ = some _ from e)
    obtain ⟨es, e3, rfl⟩ := Option.map_eq_some_iff.mp e2
    exact .cons (lookR_rep r h e1) (lookAll_rep r t e3)
theorem LRL.one {c : Cor Ω} {H : Hp} {d : D} {us : List V} (h : LRL c H [d] us) : ∃ u, us = [u] ∧ LRepR c H d u := by
  cases h with | cons h t => cases t; exact ⟨_, rfl, h⟩
theorem LRL.two {c : Cor Ω} {H : Hp} {d e : D} {us : List V} (h : LRL c H [d, e] us) : ∃ u v, us = [u, v] ∧ LRepR c H d u ∧ LRepR c H e v := by
  cases h with | cons h t => cases t with | cons h' t => cases t; exact ⟨_, _, rfl, h, h'⟩
theorem LRepR.int {c : Cor Ω} {H : Hp} {i : Int} {u : V} (h : LRepR c H (.int i) u) : u = .int i := (h.plain (fun _ z => by cases z)).int
theorem LRepR.bl {c : Cor Ω} {H : Hp} {i : Bool} {u : V} (h : LRepR c H (.bool i) u) : u = .bl i := (h.plain (fun _ z => by cases z)).bl
theorem LRepR.str {c : Cor Ω} {H : Hp} {i : Str} {u : V} (h : LRepR c H (.str i) u) : u = .str i := (h.plain (fun _ z => by cases z)).str
def eCB (op : List D → Option D) (f : La) : Ex := fun ρ S => (f ρ S).bind fun vs S1 => ofO ((lookAll S1 vs).bind op) S1
def rND (Ω : PySem.W.Frag) (op : List D → Option D) : List V → Hp → VK → Prop := fun xs H Q => ∃ (c : Cor Ω) (S : Sto) (ds : List D) (r : D), Rel c S H ∧ LRL c H ds xs ∧ op ds = some r ∧ ∀ c' H' u, Nx c S H c' S H' → Rep c'.A H' r u → Q u H'
section
variable {X : Cx} {W : WX}
theorem eCB_r {mg : Str → Option Value} {op : List D → Option D} {f : La} {σ : L2.St} {H : Hp} {Q : VK} (h : tE Ω mg W (eCB op f) σ H Q) : tCB (rND Ω op) (tA Ω mg W f) σ H Q := by
  obtain ⟨c, ρ, S, hr, he, q⟩ := h
  refine ⟨c, ρ, S, hr, he, (Aft.bind hr q).mono fun vs c1 S1 H1 x1 h1 us hus => ?_⟩
  cases e1 : lookAll S1 vs with
  | none => rw [e1] at h1; exact h1.elim
  | some ds =>
    cases e2 : op ds with
    | none => simp only [e1, e2, Option.bind] at h1; exact h1.elim
    | some r =>
      simp only [e1, e2, Option.bind] at h1
      exact ⟨c1, S1, ds, r, x1.rel, lookAll_rep x1.rel hus e1, e2, fun c' H' u x2 hu => h1 c' H' x2 u hu⟩
theorem se_callB {id : String} {op : List D → Option D} {x : Str} {e : Expr} {es : List Expr} {f : La} {p pos : Pos} (hc : CallR X (.builtin id) (rND X.K op)) (hg : Gl X x) (hm : X.mg x = none) (hv : bootBuiltins x = some (.builtin id)) (ha : SA X W (e :: es) f)
    (hn : x ≠ "__name__" := by decide) (hdb : (x == ("__debug__" : Str)) = false := by decide) (he : starEach (e :: es) X.env = (false, eval e X.env) :: starEach es X.env := by rfl) (hpl : (backTo pos (starEach es X.env)).any (·.1) = false := by rfl) :
    SE X W (.Call (.Name x p) (e :: es) [] pos) (eCB op f) := PE.imp (pe_callB hc hg hm hv ha hn hdb he hpl) fun σ H Q h => eCB_r h
theorem se_callTy {T : String} {op : List D → Option D} {x : Str} {e : Expr} {es : List Expr} {f : La} {p pos : Pos} (hc : CallR X (.type T) (rND X.K op)) (hg : Gl X x) (hm : X.mg x = none) (hv : bootBuiltins x = some (.type T)) (ha : SA X W (e :: es) f)
    (hn : x ≠ "__name__" := by decide) (hdb : (x == ("__debug__" : Str)) = false := by decide) (he : starEach (e :: es) X.env = (false, eval e X.env) :: starEach es X.env := by rfl) (hpl : (backTo pos (starEach es X.env)).any (·.1) = false := by rfl) :
    SE X W (.Call (.Name x p) (e :: es) [] pos) (eCB op f) := PE.imp (pe_callTy hc hg hm hv ha hn hdb he hpl) fun σ H Q h => eCB_r h
end
/-! ### the built-ins -/
def intsOf : List D → Option (List Int)
  | [] => some []
  | .int i :: r => (intsOf r).map (i :: ·)
  | _ :: _ => none
def blsOf : List D → Option (List Bool)
  | [] => some []
  | .bool i :: r => (blsOf r).map (i :: ·)
  | _ :: _ => none
def lenD : List D → Option D
  | [.list xs] => some (.int xs.length)
  | [.tuple xs] => some (.int xs.length)
  | [.dict xs] => some (.int xs.length)
  | [.str x] => if x.length ≤ sizeLine then some (.int x.length) else none
  | _ => none
def absD : List D → Option D
  | [.int i] => some (.int (if i < 0 then -i else i))
  | _ => none
def max2D : List D → Option D
  | [.int i, .int j] => some (.int (if j > i then j else i))
  | _ => none
def min2D : List D → Option D
  | [.int i, .int j] => some (.int (if j < i then j else i))
  | _ => none
def sumD : List D → Option D
  | [.list xs] => (intsOf xs).map fun ns => .int ns.sum
  | _ => none
def allBD : List D → Option D
  | [.list xs] => (blsOf xs).map fun ns => .bool (ns.all id)
  | _ => none
def anyBD : List D → Option D
  | [.list xs] => (blsOf xs).map fun ns => .bool (ns.any id)
  | _ => none
def intD : List D → Option D
  | [.int i] => some (.int i)
  | [.bool b] => some (.int (if b then 1 else 0))
  | _ => none
def strD : List D → Option D
  | [.int i] => if i.natAbs.log2 < 1920 then some (.str (toString i)) else none
  | _ => none
def divmodD : List D → Option D
  | [.int i, .int j] => if 0 < j ∧ j < 1073741824 then some (.tuple [.int (i / j), .int (i % j)]) else none
  | _ => none
def tupleD : List D → Option D
  | [.list xs] => some (.tuple xs)
  | [.tuple xs] => some (.tuple xs)
  | _ => none
def listD : List D → Option D
  | [.list xs] => some (.list xs)
  | [.tuple xs] => some (.list xs)
  | _ => none
section
variable {A : Addr → Prop} {H : Hp}
theorem intsOf_rep : ∀ {ds : List D} {vs : List V} {ns : List Int}, RepL A H ds vs → intsOf ds = some ns → vs = ns.map V.int
  | _, _, _, .nil, e => by cases e; rfl
  | _, _, _, .cons (d := .int i) h r, e => by
    obtain ⟨es, h1, rfl⟩ := Option.map_eq_some_iff.mp (show (intsOf _).map (i :: ·) = some _ from e)
    cases h
    rw [intsOf_rep r h1]; rfl
  | _, _, _, .cons (d := .none) h r, e => by cases e
  | _, _, _, .cons (d := .bool _) h r, e => by cases e
  | _, _, _, .cons (d := .str _) h r, e => by cases e
  | _, _, _, .cons (d := .list _) h r, e => by cases e
  | _, _, _, .cons (d := .tuple _) h r, e => by cases e
  | _, _, _, .cons (d := .dict _) h r, e => by cases e
theorem blsOf_rep : ∀ {ds : List D} {vs : List V} {ns : List Bool}, RepL A H ds vs → blsOf ds = some ns → vs = ns.map V.bl
  | _, _, _, .nil, e => by cases e; rfl
  | _, _, _, .cons (d := .bool i) h r, e => by
    obtain ⟨es, h1, rfl⟩ := Option.map_eq_some_iff.mp (show (blsOf _).map (i :: ·) = some _ from e)
    cases h
    rw [blsOf_rep r h1]; rfl
  | _, _, _, .cons (d := .none) h r, e => by cases e
  | _, _, _, .cons (d := .int _) h r, e => by cases e
  | _, _, _, .cons (d := .str _) h r, e => by cases e
  | _, _, _, .cons (d := .list _) h r, e => by cases e
  | _, _, _, .cons (d := .tuple _) h r, e => by cases e
  | _, _, _, .cons (d := .dict _) h r, e => by cases e
theorem RepK.length : ∀ {kds : List (D × D)} {kvs : List (Key × V)}, RepK A H kds kvs → kds.length = kvs.length
  | _, _, .nil => rfl
  | _, _, .cons _ r => by rw [List.length_cons, List.length_cons, RepK.length r]
end
section
variable {X : Cx}
theorem call_lenR : CallR X (.builtin "len") (fun xs H Q => ∃ a kvs, xs = [V.ref a] ∧ Rd H a (.dK kvs) ∧ Q (.int kvs.length) H) := by
  intro pins s σ H xs us Q I r h
  obtain ⟨a, kvs, rfl, ha, q⟩ := h
  obtain ⟨u, rfl, ru⟩ := vals1 r
  cases ru
  exact d_len I ha fun t s' I' => ⟨.int kvs.length, H, I', ⟨t, rfl⟩, q⟩
theorem b_len : CallR X (.builtin "len") (rND X.K lenD) := CallR.imp (call_len.or call_lenR) fun xs H Q ⟨c, S, ds, r, hr, hd, ho, q⟩ => by
  unfold lenD at ho
  split at ho
  · cases ho
    obtain ⟨u, rfl, h⟩ := hd.one
    obtain ⟨a, vs, rfl, h1, h2, h3⟩ := h.list
    exact .inl ⟨_, vs.length, rfl, .inl ⟨vs, h1, rfl⟩, by rw [← h3.length]; exact q c H _ (Nx.refl hr) (.int _)⟩
  · cases ho
    obtain ⟨u, rfl, h⟩ := hd.one
    obtain ⟨a, vs, rfl, h1, h2, h3⟩ := (h.plain (fun _ z => by cases z)).tup
    exact .inl ⟨_, vs.length, rfl, .inr ⟨vs, SqT.of h1, rfl⟩, by rw [← h3.length]; exact q c H _ (Nx.refl hr) (.int _)⟩
  · cases ho
    obtain ⟨u, rfl, h⟩ := hd.one
    obtain ⟨a, vs, rfl, h1, h2, h3⟩ := (h.plain (fun _ z => by cases z)).dict
    exact .inr ⟨_, vs, rfl, h1, by rw [← h3.length]; exact q c H _ (Nx.refl hr) (.int _)⟩
  · split at ho
    · rename_i hl
      cases ho
      obtain ⟨u, rfl, h⟩ := hd.one
      rw [h.str]
      exact .inl ⟨_, _, rfl, ⟨hl, rfl⟩, q c H _ (Nx.refl hr) (.int _)⟩
    · cases ho
  · cases ho
theorem b_abs : CallR X (.builtin "abs") (rND X.K absD) := CallR.imp call_abs fun xs H Q ⟨c, S, ds, r, hr, hd, ho, q⟩ => by
  unfold absD at ho
  split at ho
  · cases ho
    obtain ⟨u, rfl, h⟩ := hd.one
    rw [h.int]; exact ⟨_, rfl, q c H _ (Nx.refl hr) (.int _)⟩
  · cases ho
theorem b_max2 (hc : X.calm = true) : CallR X (.builtin "max") (rND X.K max2D) := CallR.imp (call_max2 hc) fun xs H Q ⟨c, S, ds, r, hr, hd, ho, q⟩ => by
  unfold max2D at ho
  split at ho
  · cases ho
    obtain ⟨u, v, rfl, h, h'⟩ := hd.two
    rw [h.int, h'.int]; exact ⟨_, _, rfl, q c H _ (Nx.refl hr) (.int _)⟩
  · cases ho
theorem b_min2 (hc : X.calm = true) : CallR X (.builtin "min") (rND X.K min2D) := CallR.imp (call_min2 hc) fun xs H Q ⟨c, S, ds, r, hr, hd, ho, q⟩ => by
  unfold min2D at ho
  split at ho
  · cases ho
    obtain ⟨u, v, rfl, h, h'⟩ := hd.two
    rw [h.int, h'.int]; exact ⟨_, _, rfl, q c H _ (Nx.refl hr) (.int _)⟩
  · cases ho
theorem b_sum (hc : X.calm = true) : CallR X (.builtin "sum") (rND X.K sumD) := CallR.imp (cr_sum hc) fun xs H Q ⟨c, S, ds, r, hr, hd, ho, q⟩ => by
  unfold sumD at ho
  split at ho
  · obtain ⟨ns, h1, rfl⟩ := Option.map_eq_some_iff.mp ho
    obtain ⟨u, rfl, h⟩ := hd.one
    obtain ⟨a, vs, rfl, h2, h3, h4⟩ := h.list
    rw [intsOf_rep h4 h1] at h2
    exact ⟨_, ns, rfl, h2, q c H _ (Nx.refl hr) (.int _)⟩
  · cases ho
theorem b_all (hc : X.calm = true) : CallR X (.builtin "all") (rND X.K allBD) := CallR.imp (cr_all hc) fun xs H Q ⟨c, S, ds, r, hr, hd, ho, q⟩ => by
  unfold allBD at ho
  split at ho
  · obtain ⟨ns, h1, rfl⟩ := Option.map_eq_some_iff.mp ho
    obtain ⟨u, rfl, h⟩ := hd.one
    obtain ⟨a, vs, rfl, h2, h3, h4⟩ := h.list
    rw [blsOf_rep h4 h1] at h2
    exact ⟨_, ns, rfl, h2, q c H _ (Nx.refl hr) (.bl _)⟩
  · cases ho
theorem b_any (hc : X.calm = true) : CallR X (.builtin "any") (rND X.K anyBD) := CallR.imp (cr_any hc) fun xs H Q ⟨c, S, ds, r, hr, hd, ho, q⟩ => by
  unfold anyBD at ho
  split at ho
  · obtain ⟨ns, h1, rfl⟩ := Option.map_eq_some_iff.mp ho
    obtain ⟨u, rfl, h⟩ := hd.one
    obtain ⟨a, vs, rfl, h2, h3, h4⟩ := h.list
    rw [blsOf_rep h4 h1] at h2
    exact ⟨_, ns, rfl, h2, q c H _ (Nx.refl hr) (.bl _)⟩
  · cases ho
theorem b_int : CallR X (.type "int") (rND X.K intD) := CallR.imp call_int1 fun xs H Q ⟨c, S, ds, r, hr, hd, ho, q⟩ => by
  unfold intD at ho
  split at ho
  · cases ho
    obtain ⟨u, rfl, h⟩ := hd.one
    rw [h.int]; exact .inl ⟨_, rfl, q c H _ (Nx.refl hr) (.int _)⟩
  · cases ho
    obtain ⟨u, rfl, h⟩ := hd.one
    rw [h.bl]; exact .inr ⟨_, rfl, q c H _ (Nx.refl hr) (.int _)⟩
  · cases ho
theorem b_str : CallR X (.type "str") (rND X.K strD) := CallR.imp call_str_int fun xs H Q ⟨c, S, ds, r, hr, hd, ho, q⟩ => by
  unfold strD at ho
  split at ho
  · split at ho
    · rename_i hl
      cases ho
      obtain ⟨u, rfl, h⟩ := hd.one
      rw [h.int]; exact ⟨_, rfl, hl, q c H _ (Nx.refl hr) (.str _)⟩
    · cases ho
  · cases ho
theorem b_divmod : CallR X (.builtin "divmod") (rND X.K divmodD) := CallR.imp call_divmod fun xs H Q ⟨c, S, ds, r, hr, hd, ho, q⟩ => by
  unfold divmodD at ho
  split at ho
  · split at ho
    · rename_i hl
      cases ho
      obtain ⟨u, v, rfl, h, h'⟩ := hd.two
      rw [h.int, h'.int]
      exact ⟨_, _, rfl, hl, fun p hp => q c _ _ (Nx.new hr hp) (Rep.newTup hr hp (.cons (.int _) (.cons (.int _) .nil)) (by rw [sizeLine_eq]; show 2 ≤ 16777216; decide))⟩
    · cases ho
  · cases ho
theorem b_tuple : CallR X (.type "tuple") (rND X.K tupleD) := CallR.imp call_tuple_of fun xs H Q ⟨c, S, ds, r, hr, hd, ho, q⟩ => by
  unfold tupleD at ho
  split at ho
  · cases ho
    obtain ⟨u, rfl, h⟩ := hd.one
    obtain ⟨a, vs, rfl, h2, h3, h4⟩ := h.list
    exact ⟨a, vs, rfl, .inl ⟨h2, fun p hp => q c _ _ (Nx.new hr hp) (Rep.newTup hr hp h4 h3)⟩⟩
  · cases ho
    obtain ⟨u, rfl, h⟩ := hd.one
    obtain ⟨a, vs, rfl, h2, h3, h4⟩ := (h.plain (fun _ z => by cases z)).tup
    exact ⟨a, vs, rfl, .inr ⟨SqT.of h2, q c H _ (Nx.refl hr) (.tup h2 h3 h4)⟩⟩
  · cases ho
theorem b_list : CallR X (.type "list") (rND X.K listD) := CallR.imp call_list_of fun xs H Q ⟨c, S, ds, r, hr, hd, ho, q⟩ => by
  unfold listD at ho
  split at ho
  · cases ho
    obtain ⟨u, rfl, h⟩ := hd.one
    obtain ⟨a, vs, rfl, h2, h3, h4⟩ := h.list
    exact ⟨a, vs, rfl, .inl h2, fun p hp => q c _ _ (Nx.new hr hp) (Rep.newLst hr hp h4 h3)⟩
  · cases ho
    obtain ⟨u, rfl, h⟩ := hd.one
    obtain ⟨a, vs, rfl, h2, h3, h4⟩ := (h.plain (fun _ z => by cases z)).tup
    exact ⟨a, vs, rfl, .inr (SqT.of h2), fun p hp => q c _ _ (Nx.new hr hp) (Rep.newLst hr hp h4 h3)⟩
  · cases ho
end
/-! ### isinstance with a built-in class -/
def tyD : D → String
  | .none => "NoneType"
  | .bool _ => "bool"
  | .int _ => "int"
  | .str _ => "str"
  | .list _ => "list"
  | .tuple _ => "tuple"
  | .dict _ => "dict"
def isiD (T : String) (d : D) : Bool := match d with
  | .none => T == "NoneType"
  | .bool _ => T == "bool" || T == "int"
  | .int _ => T == "int"
  | .str _ => T == "str"
  | .list _ => T == "list"
  | .tuple _ => T == "tuple"
  | .dict _ => T == "dict"
def tyOk (T : String) : Bool := T == "int" || T == "bool" || T == "str" || T == "list" || T == "tuple"
theorem kit_isi {K : PySem.W.Frag} {T : String} (h : tyOk T = true) (d : D) : PySem.W.kitOne K (.type (tyD d)) (.type T) = some (isiD T d) := by
  unfold tyOk at h
  simp only [Bool.or_eq_true, beq_iff_eq] at h
  rcases h with (((rfl | rfl) | rfl) | rfl) | rfl <;> cases d <;> simp only [isiD, tyD] <;> exact kit_ty (by decide +kernel)
theorem LRepR.ty {c : Cor Ω} {H : Hp} {d : D} {u : V} (h : LRepR c H d u) : TyX Ω H u (.type (tyD d)) := by
  cases h with
  | of h =>
    cases h with
    | of h =>
      cases h with
      | non => exact .base .non
      | bl b => exact .base (.bl b)
      | int b => exact .base (.int b)
      | str b => exact .base (.str b)
      | tup h _ _ => exact .base (.tup h)
      | lst _ h _ _ => exact .base (.lst h)
      | dic _ h _ _ =>
        rcases h with h | ⟨o, h⟩
        · exact .base (.dK h)
        · exact .fDict h
    | lst h _ _ => exact .base (.lst h)
    | dic h _ _ => exact .base (.dK h)
  | scr h _ _ =>
    rcases h with (h | ⟨o, h⟩) | h
    · exact .base (.lst h)
    · exact .base (.frz h)
    · rcases h (fun _ => none) with (z | ⟨o, z⟩) | ⟨o, its, n, h1, h2, _⟩
      · cases z
      · cases z
      · exact .kList h1 h2
def eIsi (T : String) (f : Ex) : Ex := fun ρ S => (f ρ S).bind fun v S1 => match lookR S1 v with
  | some d => .ok (.d (.bool (isiD T d))) S1
  | none => .bad
section
variable {X : Cx} {W : WX}
theorem se_isi {T : String} {e : Expr} {f : Ex} {x : Str} {p q pos : Pos} (hT : tyOk T = true) (he : SE X W e f) (hg : Gl X "isinstance") (hm : X.mg "isinstance" = none) (hg2 : Gl X x) (hm2 : X.mg x = none) (hv : bootBuiltins x = some (.type T))
    (hn : x ≠ "__name__" := by decide) (hdb : (x == ("__debug__" : Str)) = false := by decide)
    (hs : starEach (e :: [.Name x q]) X.env = (false, eval e X.env) :: starEach [.Name x q] X.env := by rfl) (hs2 : starEach [.Name x q] X.env = (false, eval (.Name x q) X.env) :: starEach [] X.env := by rfl) (hpl : (backTo pos (starEach [.Name x q] X.env)).any (·.1) = false := by rfl) :
    SE X W (.Call (.Name "isinstance" p) [e, .Name x q] [] pos) (eIsi T f) :=
  PE.imp (pe_callB call_isi hg hm (by decide +kernel) (pa_cons he (pa_cons (pe_bltn (v := .ty T) hg2 hm2 hv rfl hn hdb) pa_nil hs2) hs) (by decide) (by decide) hs hpl) fun σ H Q ⟨c, ρ, S, hr, he, q⟩ => by
    refine ⟨c, ρ, S, hr, he, (Aft.bind hr q).mono fun v c1 S1 H1 x1 h1 u hu => ?_⟩
    cases e1 : lookR S1 v with
    | none => simp only [e1] at h1; exact h1.elim
    | some d =>
      simp only [e1] at h1
      have hd := lookR_rep x1.rel hu e1
      exact ⟨u, .ty T, .type (tyD d), .type T, isiD T d, rfl, .ty T, hd.ty, kit_isi hT d, h1 c1 H1 (Nx.refl x1.rel) _ (.bl _)⟩
end
end DL

namespace DL
open PySem PySem.Spec PyProof.Rows L2
/-! ### own defs -/
abbrev Fn := List Val → Sto → R Val
def spG (Ω : PySem.W.Frag) (mg : Str → Option Value) (n : Nat) (F : Fn) : Sp := fun vs H Q E => ∃ (c : Cor Ω) (S : Sto) (as : List Val), Rel c S H ∧ VRepL c H as vs ∧ as.length = n ∧ match F as S with
  | .ok v S' => ∀ c' H' u, Nx c S H c' S' H' → VRep c' H' v u → Q u H'
  | .exc x S' => ∀ c' H' cls d, Nx c S H c' S' H' → XRep mg x cls d H' → E cls d H'
  | .bad => False
def fin (r : R Flow) : R Val := match r with
  | .ok (.nx _) S => .ok (.d .none) S
  | .ok (.rt v) S => .ok v S
  | .ok (.ex x _) S => .exc x S
  | _ => .bad
def mkFn (k : Nat) (g : Blk) : Fn := fun as S => fin (g (as.map some ++ List.replicate k none) S)
theorem start_rep {c : Cor Ω} {H : Hp} : ∀ {as : List Val} {vs : List V} (k : Nat), VRepL c H as vs → RepE c H (as.map some ++ List.replicate k none) (vs.map some ++ List.replicate k none) := by
  intro as vs k h
  refine ⟨by simp [h.length], ?_⟩
  induction h with
  | nil =>
    intro i v e
    simp only [List.map_nil, List.nil_append] at e
    rw [List.getElem?_replicate] at e
    split at e <;> cases e
  | cons h t ih =>
    intro i v e
    cases i with
    | zero => simp at e; subst e; exact ⟨_, rfl, h⟩
    | succ i =>
      obtain ⟨u, h1, h2⟩ := ih i v (by simpa using e)
      exact ⟨u, by simpa using h1, h2⟩
section
variable {P : Program} {w : World} {K : PySem.W.Frag} {mg : Str → Option Value} {base : Heap}
/-- the wish about errors in a def's own body -/
abbrev wDef (E : XK) : WX := fun cls d _ H => E cls d H
theorem okF {x qual : Str} {st : Stmt} {f : Addr} {fd : FuncData} {N ps : List Str} {k : Nat} {g : Blk} (F : Fun K x qual st f fd) (S : FnScope N ps (defScope st))
    (hb : ∀ (cdv : Value) (A : Around) (outer : List Env) (s : Shared) (H : Hp) (E : XK), Room k (A.deeper (envOfC qual (defScope st) s.heap.objs.size f cdv)) →
      SSs (cxOf (L2.CX P w) P w K mg base N qual (defScope st) f cdv A outer s H E) (wDef E) (defBody st) g) :
    FnOk P w K mg base (L2.CX P w) (k + 1) f fd ps (spG K mg ps.length (mkFn (N.length - ps.length) g)) := by
  refine F.okX S (fun vs H Q E ⟨c, S, as, hr, hv, hl, _⟩ => by rw [← hv.length]; exact hl) fun cdv A outer s H vs Q E hr h => ⟨_, hb cdv A outer s H E hr, ?_⟩
  obtain ⟨c, S, as, hrel, hv, hl, q⟩ := h
  refine ⟨c, as.map some ++ List.replicate (N.length - ps.length) none, S, hrel, ?_, ?_⟩
  · have e : N.length - vs.length = N.length - ps.length := by rw [← hv.length, hl]
    unfold L2.start
    rw [e]
    exact start_rep _ hv
  · unfold mkFn at q
    show AftS mg (wDef E) c S H _ _
    revert q
    cases g (as.map some ++ List.replicate (N.length - ps.length) none) S with
    | ok fl S' =>
      cases fl with
      | nx ρ => exact fun q c' σ' H' x e => q c' H' .non x .non
      | rt v => exact fun q c' H' u x e => q c' H' u x e
      | ex z ρ => exact fun q c' σ' H' cls d x e y => q c' H' cls d x y
      | bk ρ => exact fun q => q.elim
      | ct ρ => exact fun q => q.elim
    | exc z S' => exact fun q => q.elim
    | bad => exact fun q => q.elim
theorem okG {x qual : Str} {st : Stmt} {f : Addr} {fd : FuncData} {N ps : List Str} {k n m : Nat} {F : Fn} (g : Blk) (U : Fun K x qual st f fd) (S : FnScope N ps (defScope st)) (hF : F = mkFn m g) (hm : N.length - ps.length = m) (hn : ps.length = n)
    (hb : ∀ (cdv : Value) (A : Around) (outer : List Env) (s : Shared) (H : Hp) (E : XK), Room k (A.deeper (envOfC qual (defScope st) s.heap.objs.size f cdv)) →
      SSs (cxOf (L2.CX P w) P w K mg base N qual (defScope st) f cdv A outer s H E) (wDef E) (defBody st) g) :
    FnOk P w K mg base (L2.CX P w) (k + 1) f fd ps (spG K mg n F) := by
  subst hF hm hn
  exact okF U S hb
end
/-! ### a call of an own def: the objects handed in are lent -/
def lent : List Val → List Nat
  | [] => []
  | .loc n :: r => n :: lent r
  | _ :: r => lent r
def rebase : List Val → Nat → List Val
  | [], _ => []
  | .loc _ :: r, k => .loc k :: rebase r (k + 1)
  | v :: r, k => v :: rebase r k
def isLive (S : Sto) (n : Nat) : Bool := match S[n]? with
  | some (some _) => true
  | _ => false
def puts (S : Sto) : List Nat → Sto → Sto
  | [], _ => S
  | n :: B, S' => puts (S.set n (S'.headD none)) B S'.tail
def back (S : Sto) (B : List Nat) (v : Val) (S' : Sto) : R Val := match v with
  | .d x => .ok (.d x) (puts S B S')
  | .er x => .ok (.er x) (puts S B S')
  | .loc k => match B[k]? with
    | some n => .ok (.loc n) (puts S B S')
    | none => match S'[k]? with
      | some (some o) => .ok (.loc S.length) (puts S B S' ++ [some o])
      | _ => .bad
  | .scr _ => .bad
def callM (n : Nat) (F : Fn) (vs : List Val) (S : Sto) : R Val :=
  if vs.length = n ∧ (lent vs).Nodup ∧ (lent vs).all (isLive S) = true then
    match F (rebase vs 0) ((lent vs).map fun n => S.getD n none) with
    | .ok v S' => back S (lent vs) v S'
    | .exc x S' => .exc x (puts S (lent vs) S')
    | .bad => .bad
  else .bad
def eCall (n : Nat) (F : Fn) (f : La) : Ex := fun ρ S => (f ρ S).bind fun vs S1 => callM n F vs S1
theorem puts_length : ∀ (B : List Nat) (S S' : Sto), (puts S B S').length = S.length
  | [], _, _ => rfl
  | n :: B, S, S' => by unfold puts; rw [puts_length B]; simp
theorem puts_out : ∀ (B : List Nat) (S S' : Sto) {n : Nat}, n ∉ B → (puts S B S')[n]? = S[n]?
  | [], _, _, _, _ => rfl
  | m :: B, S, S', n, h => by
    unfold puts
    rw [puts_out B _ _ fun z => h (List.mem_cons_of_mem _ z), List.getElem?_set_ne fun z => h (by rw [z]; exact List.mem_cons_self)]
theorem puts_in : ∀ (B : List Nat) (S S' : Sto) {i n : Nat}, B.Nodup → B[i]? = some n → n < S.length → (puts S B S')[n]? = some ((S'[i]?).join)
  | [], _, _, i, n, _, e, _ => by simp at e
  | m :: B, S, S', 0, n, nd, e, hl => by
    have e' : m = n := by simpa using e
    subst e'
    have hm : m ∉ B := (List.nodup_cons.mp nd).1
    unfold puts
    rw [puts_out B _ _ hm, List.getElem?_set_self hl]
    cases S' with
    | nil => rfl
    | cons a r => simp
  | m :: B, S, S', i + 1, n, nd, e, hl => by
    unfold puts
    rw [puts_in B _ S'.tail (i := i) (List.nodup_cons.mp nd).2 (by simpa using e) (by simpa using hl)]
    cases S' with
    | nil => simp
    | cons a r => simp
section
variable {c : Cor Ω} {S : Sto} {H : Hp}
/-- the callee's own view -/
def sub (c : Cor Ω) (B : List Nat) : Cor Ω := ⟨B.map fun n => c.m.getD n 0, c.A⟩
theorem getD_of {α : Type} {l : List α} {n : Nat} {a d : α} (h : l[n]? = some a) : l.getD n d = a := by rw [List.getD_eq_getElem?_getD, h]; rfl
structure Lend (c : Cor Ω) (S : Sto) (B : List Nat) : Prop where
  nd : B.Nodup
  lv : ∀ n ∈ B, ∃ o a, S[n]? = some (some o) ∧ c.m[n]? = some a
theorem Lend.mk' (r : Rel c S H) {B : List Nat} (nd : B.Nodup) (h : B.all (isLive S) = true) : Lend c S B := ⟨nd, fun n hn => by
  have h1 := List.all_eq_true.mp h n hn
  unfold isLive at h1
  split at h1
  · rename_i o ho
    have hl : n < c.m.length := by rw [r.len]; exact (List.getElem?_eq_some_iff.mp ho).1
    exact ⟨o, c.m[n], ho, List.getElem?_eq_getElem hl⟩
  · cases h1⟩
variable {B : List Nat}
theorem Lend.at (L : Lend c S B) {i : Nat} {a : Addr} (h : (sub c B).m[i]? = some a) : ∃ n, B[i]? = some n ∧ c.m[n]? = some a ∧ ∃ o, S[n]? = some (some o) := by
  unfold sub at h
  rw [List.getElem?_map] at h
  obtain ⟨n, h1, h2⟩ := Option.map_eq_some_iff.mp h
  obtain ⟨o, b, h3, h4⟩ := L.lv n (List.mem_of_getElem? h1)
  rw [getD_of h4] at h2
  subst h2
  exact ⟨n, h1, h4, o, h3⟩
theorem Lend.to (L : Lend c S B) {i n : Nat} {a : Addr} (h : B[i]? = some n) (h' : c.m[n]? = some a) : (sub c B).m[i]? = some a := by
  unfold sub
  rw [List.getElem?_map, h]
  exact congrArg some (getD_of h')
theorem Lend.obj (L : Lend c S B) {i n : Nat} (h : B[i]? = some n) : (B.map fun n => S.getD n none)[i]? = S[n]? := by
  obtain ⟨o, _, h3, _⟩ := L.lv n (List.mem_of_getElem? h)
  rw [List.getElem?_map, h, h3]
  exact congrArg some (getD_of h3)
theorem Lend.live (L : Lend c S B) {a : Addr} (h : live (sub c B) (B.map fun n => S.getD n none) a) : ∃ n ∈ B, c.m[n]? = some a ∧ DL.live c S a := by
  obtain ⟨i, o, h1, h2⟩ := h
  obtain ⟨n, h3, h4, o', h5⟩ := L.at h1
  exact ⟨n, List.mem_of_getElem? h3, h4, n, o', h4, h5⟩
theorem nodup_ix' {α : Type} {N : List α} (hN : N.Nodup) {i j : Nat} {x : α} (a : N[i]? = some x) (b : N[j]? = some x) : i = j := by
  obtain ⟨h1, e1⟩ := List.getElem?_eq_some_iff.mp a
  obtain ⟨h2, e2⟩ := List.getElem?_eq_some_iff.mp b
  exact (List.getElem_inj hN).mp (e1.trans e2.symm)
theorem Lend.rel (r : Rel c S H) (L : Lend c S B) : Rel (sub c B) (B.map fun n => S.getD n none) H := by
  refine ⟨by simp [sub], fun i j a o o' h1 h2 h3 h4 => ?_, fun i a o h1 h2 => ?_, r.tr, r.nt⟩
  · obtain ⟨n, e1, e2, p, e3⟩ := L.at h1
    obtain ⟨m, f1, f2, p', f3⟩ := L.at h2
    have := r.inj n m a p p' e2 f2 e3 f3
    subst this
    exact nodup_ix' L.nd e1 f1
  · obtain ⟨n, e1, e2, p, e3⟩ := L.at h1
    rw [L.obj e1] at h2
    obtain ⟨h3, h4⟩ := r.ob n a o e2 h2
    refine ⟨h3, ?_⟩
    cases o <;> exact h4
theorem Lend.args (L : Lend c S B) : ∀ {vs : List Val} {us : List V} (k : Nat), VRepL c H vs us → (∀ i n, (lent vs)[i]? = some n → B[k + i]? = some n) → VRepL (sub c B) H (rebase vs k) us
  | _, _, _, .nil, _ => .nil
  | _, _, k, .cons (x := .d x) h t, hB => .cons h (L.args k t hB)
  | _, _, k, .cons (x := .scr x) h t, hB => .cons h (L.args k t hB)
  | _, _, k, .cons (x := .er x) h t, hB => .cons h (L.args k t hB)
  | _, _, k, .cons (x := .loc n) ⟨a, h1, h2⟩ t, hB => by
    refine .cons ⟨a, L.to (n := n) (by simpa using hB 0 n rfl) h1, h2⟩ (L.args (k + 1) t fun i m e => ?_)
    have := hB (i + 1) m (by simpa [lent] using e)
    rw [show k + 1 + i = k + (i + 1) by omega]
    exact this
/-- behind the call -/
theorem Lend.nx (r : Rel c S H) (L : Lend c S B) {c1 : Cor Ω} {S1 : Sto} {H1 : Hp} (x : Nx (sub c B) (B.map fun n => S.getD n none) H c1 S1 H1) : Nx c S H ⟨c.m, c1.A⟩ (puts S B S1) H1 := by
  have rs := L.rel r
  have nl : ∀ a, ¬ DL.live c S a → ¬ DL.live (sub c B) (B.map fun n => S.getD n none) a := fun a h z => by
    obtain ⟨_, _, _, q⟩ := L.live z
    exact h q
  have hS : ∀ n o, (puts S B S1)[n]? = some (some o) → (n ∈ B ∧ ∃ i, B[i]? = some n ∧ S1[i]? = some (some o)) ∨ (n ∉ B ∧ S[n]? = some (some o)) := fun n o h => by
    by_cases hn : n ∈ B
    · obtain ⟨i, hi⟩ := List.getElem?_of_mem hn
      obtain ⟨p, a, h3, h4⟩ := L.lv n hn
      rw [puts_in B S S1 L.nd hi (List.getElem?_eq_some_iff.mp h3).1] at h
      refine .inl ⟨hn, i, hi, ?_⟩
      cases q : S1[i]? with
      | none => rw [q] at h; cases h
      | some z => rw [q] at h; exact h
    · rw [puts_out B S S1 hn] at h
      exact .inr ⟨hn, h⟩
  have hm : ∀ i n a, B[i]? = some n → c.m[n]? = some a → c1.m[i]? = some a := fun i n a h1 h2 => prefix_get x.pre (L.to h1 h2)
  have notB : ∀ n a o, n ∉ B → c.m[n]? = some a → S[n]? = some (some o) → ¬ DL.live (sub c B) (B.map fun n => S.getD n none) a := fun n a o h1 h2 h3 z => by
    obtain ⟨m, g1, g2, _⟩ := L.live z
    obtain ⟨p, b, g3, g4⟩ := L.lv m g1
    have := r.inj n m a o p h2 g2 h3 g3
    subst this
    exact h1 g1
  refine ⟨List.prefix_refl _, fun a h => x.grow a h, fun a h l => x.lock a h (nl a l), ⟨?_, ?_, ?_, x.rel.tr, x.rel.nt⟩, fun a o h l => x.fr a o h (nl a l), ?_⟩
  · rw [puts_length]; exact r.len
  · intro n n' a o o' h1 h2 h3 h4
    rcases hS n o h3 with ⟨g1, i, g2, g3⟩ | ⟨g1, g2⟩ <;> rcases hS n' o' h4 with ⟨f1, j, f2, f3⟩ | ⟨f1, f2⟩
    · have := x.rel.inj i j a o o' (hm i n a g2 h1) (hm j n' a f2 h2) g3 f3
      subst this
      rw [g2] at f2; cases f2; rfl
    · obtain ⟨p, b, q1, q2⟩ := L.lv n g1
      exact r.inj n n' a p o' h1 h2 q1 f2
    · obtain ⟨p, b, q1, q2⟩ := L.lv n' f1
      exact r.inj n n' a o p h1 h2 g2 q1
    · exact r.inj n n' a o o' h1 h2 g2 f2
  · intro n a o h1 h3
    rcases hS n o h3 with ⟨g1, i, g2, g3⟩ | ⟨g1, g2⟩
    · obtain ⟨q1, q2⟩ := x.rel.ob i a o (hm i n a g2 h1) g3
      exact ⟨q1, by cases o <;> exact q2⟩
    · obtain ⟨q1, q2⟩ := r.ob n a o h1 g2
      have nlv := notB n a o g1 h1 g2
      refine ⟨x.lock a q1 nlv, ?_⟩
      cases o with
      | lst ds => obtain ⟨vs, e1, e2, e3⟩ := q2; exact ⟨vs, x.fr a _ e1 nlv, e2, RepL.keep (x.kp rs) _ _ e3⟩
      | dic ds => obtain ⟨vs, e1, e2, e3⟩ := q2; exact ⟨vs, x.fr a _ e1 nlv, e2, RepK.keep (x.kp rs) _ _ e3⟩
  · rintro a ⟨n, o, h1, h3⟩
    rcases hS n o h3 with ⟨g1, i, g2, g3⟩ | ⟨g1, g2⟩
    · rcases x.lv a ⟨i, o, hm i n a g2 h1, g3⟩ with z | z
      · obtain ⟨_, _, _, q⟩ := L.live z; exact .inl q
      · exact .inr z
    · exact .inl ⟨n, o, h1, g2⟩
/-- .. where a new object is handed on -/
theorem Lend.nx2 (r : Rel c S H) (L : Lend c S B) {c1 : Cor Ω} {S1 : Sto} {H1 : Hp} (x : Nx (sub c B) (B.map fun n => S.getD n none) H c1 S1 H1) {k : Nat} {o : O} {a : Addr} (hk : B[k]? = none) (ho : S1[k]? = some (some o)) (ha : c1.m[k]? = some a) :
    Nx c S H ⟨c.m ++ [a], c1.A⟩ (puts S B S1 ++ [some o]) H1 := by
  have y := L.nx r x
  have la : DL.live c1 S1 a := ⟨k, o, ha, ho⟩
  have hlen : c.m.length = (puts S B S1).length := y.rel.len
  have hm : ∀ i n a, B[i]? = some n → c.m[n]? = some a → c1.m[i]? = some a := fun i n a h1 h2 => prefix_get x.pre (L.to h1 h2)
  -- no old place that lives has this address
  have no : ∀ n o', c.m[n]? = some a → (puts S B S1)[n]? = some (some o') → False := fun n o' h1 h3 => by
    by_cases hn : n ∈ B
    · obtain ⟨i, hi⟩ := List.getElem?_of_mem hn
      obtain ⟨p, b, h4, h5⟩ := L.lv n hn
      rw [puts_in B S S1 L.nd hi (List.getElem?_eq_some_iff.mp h4).1] at h3
      have h6 : S1[i]? = some (some o') := by
        cases q : S1[i]? with
        | none => rw [q] at h3; cases h3
        | some z => rw [q] at h3; exact h3
      have := x.rel.inj i k a o' o (hm i n a hi h1) ha h6 ho
      subst this
      rw [hi] at hk; cases hk
    · rw [puts_out B S S1 hn] at h3
      obtain ⟨q1, q2⟩ := r.ob n a o' h1 h3
      obtain ⟨u, hu⟩ := r.tr a q1
      rcases x.lv a la with z | z
      · obtain ⟨m, g1, g2, _⟩ := L.live z
        obtain ⟨p, b, g3, g4⟩ := L.lv m g1
        have := r.inj n m a o' p h1 g2 h3 g3
        subst this
        exact hn g1
      · rw [hu] at z; cases z
  have sp : ∀ {α : Type} (l : List α) (z : α) (n : Nat) (b : α), (l ++ [z])[n]? = some b → (l[n]? = some b ∧ n < l.length) ∨ (n = l.length ∧ z = b) := fun l z n b h => by
    rcases Nat.lt_trichotomy n l.length with q | q | q
    · rw [List.getElem?_append_left q] at h; exact .inl ⟨h, q⟩
    · subst q; simp at h; exact .inr ⟨rfl, h⟩
    · rw [List.getElem?_eq_none (by simp; omega)] at h; cases h
  obtain ⟨q1, q2⟩ := x.rel.ob k a o ha ho
  refine ⟨⟨[a], rfl⟩, y.grow, y.lock, ⟨by simp [hlen], ?_, ?_, y.rel.tr, y.rel.nt⟩, y.fr, ?_⟩
  · intro n n' b p p' h1 h2 h3 h4
    rcases sp _ _ _ _ h1 with ⟨g1, l1⟩ | ⟨g1, g1'⟩ <;> rcases sp _ _ _ _ h2 with ⟨g2, l2⟩ | ⟨g2, g2'⟩
    · rcases sp _ _ _ _ h3 with ⟨f1, _⟩ | ⟨f1, _⟩ <;> rcases sp _ _ _ _ h4 with ⟨f2, _⟩ | ⟨f2, _⟩
      · exact y.rel.inj n n' b p p' g1 g2 f1 f2
      · omega
      · omega
      · omega
    · subst g2'
      rcases sp _ _ _ _ h3 with ⟨f1, _⟩ | ⟨f1, _⟩
      · exact (no n p g1 f1).elim
      · omega
    · subst g1'
      rcases sp _ _ _ _ h4 with ⟨f1, _⟩ | ⟨f1, _⟩
      · exact (no n' p' g2 f1).elim
      · omega
    · omega
  · intro n b p h1 h3
    rcases sp _ _ _ _ h1 with ⟨g1, l1⟩ | ⟨g1, g1'⟩
    · rcases sp _ _ _ _ h3 with ⟨f1, _⟩ | ⟨f1, _⟩
      · obtain ⟨z1, z2⟩ := y.rel.ob n b p g1 f1
        exact ⟨z1, by cases p <;> exact z2⟩
      · omega
    · subst g1'
      rcases sp _ _ _ _ h3 with ⟨f1, l⟩ | ⟨f1, f2⟩
      · omega
      · cases f2
        exact ⟨q1, by cases o <;> exact q2⟩
  · rintro b ⟨n, p, h1, h3⟩
    rcases sp _ _ _ _ h1 with ⟨g1, l1⟩ | ⟨g1, g1'⟩
    · rcases sp _ _ _ _ h3 with ⟨f1, _⟩ | ⟨f1, _⟩
      · exact y.lv b ⟨n, p, g1, f1⟩
      · omega
    · subst g1'
      rcases x.lv a la with z | z
      · obtain ⟨_, _, _, q⟩ := L.live z; exact .inl q
      · exact .inr z
end
section
variable {X : Cx} {W : WX}
theorem callM_r {n : Nat} {F : Fn} {c : Cor X.K} {S : Sto} {σ : L2.St} {H : Hp} {vs : List Val} {us : List V} {Q : VK} (hr : Rel c S H) (hv : VRepL c H vs us) (h : Aft X.mg W c S σ H (callM n F vs S) fun v c' _ H' => ∀ u, VRep c' H' v u → Q u H') :
    spG X.K X.mg n F us H Q (WE W σ) := by
  unfold callM at h
  split at h
  · rename_i hc
    obtain ⟨hn, nd, hl⟩ := hc
    have L : Lend c S (lent vs) := Lend.mk' hr nd hl
    have hlen : (rebase vs 0).length = n := by
      rw [← hn]
      have : ∀ (vs : List Val) (k : Nat), (rebase vs k).length = vs.length := by
        intro vs
        induction vs with
        | nil => intro k; rfl
        | cons v r ih => intro k; cases v <;> simp [rebase, ih]
      exact this vs 0
    refine ⟨sub c (lent vs), (lent vs).map fun n => S.getD n none, rebase vs 0, L.rel hr, L.args 0 hv (fun i n e => by rw [Nat.zero_add]; exact e), hlen, ?_⟩
    revert h
    cases F (rebase vs 0) ((lent vs).map fun n => S.getD n none) with
    | ok v S' =>
      intro h c' H' u x hu
      cases v with
      | d y => exact h _ H' (L.nx hr x) u hu
      | er y => exact h _ H' (L.nx hr x) u hu
      | scr ds => exact h.elim
      | loc k =>
        obtain ⟨a, h1, h2⟩ := hu
        simp only [back] at h
        cases e : (lent vs)[k]? with
        | some m =>
          simp only [e] at h
          obtain ⟨o, b, q1, q2⟩ := L.lv m (List.mem_of_getElem? e)
          have q3 := prefix_get x.pre (L.to e q2)
          rw [h1] at q3; cases q3
          exact h _ H' (L.nx hr x) u ⟨a, q2, h2⟩
        | none =>
          simp only [e] at h
          cases e2 : S'[k]? with
          | none => simp only [e2] at h; exact h.elim
          | some z =>
            cases z with
            | none => simp only [e2] at h; exact h.elim
            | some o =>
              simp only [e2] at h
              exact h _ H' (L.nx2 hr x e e2 h1) u ⟨a, by rw [← hr.len]; simp, h2⟩
    | exc y S' => exact fun h c' H' cls d x z => h _ H' cls d (L.nx hr x) z
    | bad => exact fun h => h
  · exact h.elim
theorem se_call {k n : Nat} {f : Addr} {fd : FuncData} {ps : List Str} {F : Fn} {x : Str} {e : Expr} {es : List Expr} {fa : La} {p pos : Pos} (tk : Takes X W) (G : FnOk X.prog X.w X.K X.mg X.base (L2.CX X.prog X.w) k f fd ps (spG X.K X.mg n F)) (hr : Room k X.A) (hg : Gl X x) (hm : X.mg x = some (.ref f)) (hk : PySem.W.keepIn X.K (.ref f) = true) (hb : Binds X.K fd ps [])
    (ha : SA X W (e :: es) fa) (hdb : (x == ("__debug__" : Str)) = false := by decide) (he : starEach (e :: es) X.env = (false, eval e X.env) :: starEach es X.env := by rfl) (hpl : (backTo pos (starEach es X.env)).any (·.1) = false := by rfl) :
    SE X W (.Call (.Name x p) (e :: es) [] pos) (eCall n F fa) :=
  PE.imp (pe_callS (E := WE W) G hr hg hm hk hb (fun σ => passAt tk σ) ha hdb he hpl) fun σ H Q ⟨c, ρ, S, hr, he, q⟩ =>
    ⟨c, ρ, S, hr, he, (Aft.bind hr q).mono fun vs c1 S1 H1 x1 h1 us hus => callM_r x1.rel hus h1⟩
end
end DL

namespace DL
open PySem PySem.Spec PyProof.Rows L2
/-! ### blocks and small statements -/
def R.fl (r : R Flow) (k : Ev → Sto → R Flow) : R Flow := match r with
  | .ok (.nx ρ) S => k ρ S
  | r => r
def sNil : Blk := fun ρ S => .ok (.nx ρ) S
def sSeq (g h : Blk) : Blk := fun ρ S => (g ρ S).fl h
def sExpr (f : Ex) : Blk := fun ρ S => (f ρ S).st ρ fun _ S1 => .ok (.nx ρ) S1
def sRet (f : Ex) : Blk := fun ρ S => (f ρ S).st ρ fun v S1 => .ok (.rt v) S1
def sRetN : Blk := fun _ S => .ok (.rt (.d .none)) S
def sIf (t : Te) (g h : Blk) : Blk := fun ρ S => (t ρ S).st ρ fun b S1 => match b with
  | true => g ρ S1
  | false => h ρ S1
def sSet (i : Nat) (f : Ex) : Blk := fun ρ S => (f ρ S).st ρ fun v S1 => .ok (.nx (ρ.set i (some v))) S1
def sRaise (x : XV) : Blk := fun ρ S => .ok (.ex x ρ) S
def sBrk : Blk := fun ρ S => .ok (.bk ρ) S
def sCt : Blk := fun ρ S => .ok (.ct ρ) S
section
variable {X : Cx} {W : WX} {pos : Pos}
theorem ss_nil : SSs X W [] sNil := PSs.imp pss_nil fun D σ H ⟨c, ρ, S, hr, he, q⟩ => q c σ H (Nx.refl hr) he
theorem ss_cons {st : Stmt} {rest : List Stmt} {g h : Blk} (h1 : SS X W st g) (h2 : SSs X W rest h) : SSs X W (st :: rest) (sSeq g h) := PSs.imp (pss_cons h1 h2) fun D σ H ⟨c, ρ, S, hr, he, q⟩ => by
  refine ⟨c, ρ, S, hr, he, ?_⟩
  unfold sSeq at q
  revert q
  cases g ρ S with
  | ok fl S' =>
    cases fl with
    | nx ρ' => exact fun q c' σ' H' x e => ⟨c', ρ', S', x.rel, e, AftS.later hr x q⟩
    | bk ρ => exact fun q => q
    | ct ρ => exact fun q => q
    | rt v => exact fun q => q
    | ex z ρ => exact fun q => q
  | exc x S' => exact fun q => q
  | bad => exact fun q => q
theorem ss_one {st : Stmt} {g : Blk} (h1 : SS X W st g) : SSs X W [st] g := pss_one h1
theorem ss_pass : SS X W (.Pass pos) sNil := PS.imp ps_pass fun D σ H ⟨c, ρ, S, hr, he, q⟩ => q c σ H (Nx.refl hr) he
theorem ss_brk : SS X W (.Break pos) sBrk := PS.imp ps_break fun D σ H ⟨c, ρ, S, hr, he, q⟩ => q c σ H (Nx.refl hr) he
theorem ss_ct : SS X W (.Continue pos) sCt := PS.imp ps_continue fun D σ H ⟨c, ρ, S, hr, he, q⟩ => q c σ H (Nx.refl hr) he
theorem ss_expr {e : Expr} {f : Ex} (h : SE X W e f) (hs : swapsWith e none pos.line X.env = pure false := by rfl) : SS X W (.Expr e pos) (sExpr f) := PS.imp (ps_expr h hs) fun D σ H ⟨c, ρ, S, hr, he, q⟩ =>
  ⟨c, ρ, S, hr, he, (Aft.st hr he q).mono fun v c1 S1 H1 x1 h1 u hu => h1 c1 σ H1 (Nx.refl x1.rel) (he.keep hr x1)⟩
theorem ss_ret {e : Expr} {f : Ex} (h : SE X W e f) : SS X W (.Return (some e) pos) (sRet f) := PS.imp (ps_ret h) fun D σ H ⟨c, ρ, S, hr, he, q⟩ =>
  ⟨c, ρ, S, hr, he, (Aft.st hr he q).mono fun v c1 S1 H1 x1 h1 u hu => h1 c1 H1 u (Nx.refl x1.rel) hu⟩
theorem ss_retN : SS X W (.Return none pos) sRetN := PS.imp ps_retN fun D σ H ⟨c, ρ, S, hr, he, q⟩ => q c H .non (Nx.refl hr) .non
theorem ss_if {e : Expr} {a b : List Stmt} {t : Te} {g h : Blk} (ht : ST X W e t) (hg : SSs X W a g) (hh : SSs X W b h) : SS X W (.If e a b pos) (sIf t g h) := PS.imp (ps_if ht hg hh) fun D σ H ⟨c, ρ, S, hr, he, q⟩ => by
  refine ⟨c, ρ, S, hr, he, (Aft.st hr he q).mono fun v c1 S1 H1 x1 h1 => ?_⟩
  cases v with
  | true => exact iteT ⟨c1, ρ, S1, x1.rel, he.keep hr x1, h1⟩
  | false => exact iteF ⟨c1, ρ, S1, x1.rel, he.keep hr x1, h1⟩
theorem ss_set {i : Nat} {x : Str} {e : Expr} {f : Ex} {pos' : Pos} (hN : X.N.Nodup) (hi : X.N[i]? = some x) (hx : Loc X.env.scope x) (h : SE X W e f) (hs : swapsWith e (some (.Name x pos')) pos.line X.env = pure false := by rfl)
    (hf : X.fn x = true ∨ X.env.scope.names.lookup x = some .local := by first | exact .inl rfl | exact .inr rfl | assumption) : SS X W (.Assign [.Name x pos'] e pos) (sSet i f) :=
  PS.imp (ps_set hN hi hx h hs hf) fun D σ H ⟨c, ρ, S, hr, he, q⟩ =>
    ⟨c, ρ, S, hr, he, (Aft.st hr he q).mono fun v c1 S1 H1 x1 h1 u hu => h1 c1 _ H1 (Nx.refl x1.rel) ((he.keep hr x1).set hu i)⟩
end
/-! ### targets -/
abbrev Tg := Val → Ev → Sto → R Ev
abbrev Tgs := List D → Ev → Sto → R Ev
def R.noX {α : Type} (r : R α) : R α := match r with
  | .exc _ _ => .bad
  | r => r
def AftG (c : Cor Ω) (S : Sto) (H : Hp) (r : R Ev) (Q : L2.St → Hp → Prop) : Prop := match r with
  | .ok ρ S' => ∀ c' σ' H', Nx c S H c' S' H' → RepE c' H' ρ σ' → Q σ' H'
  | _ => False
def tG (Ω : PySem.W.Frag) (g : Tg) : TG := fun u σ H Q => ∃ (c : Cor Ω) (ρ : Ev) (S : Sto) (v : Val), Rel c S H ∧ RepE c H ρ σ ∧ VRep c H v u ∧ AftG c S H (g v ρ S) Q
def tGs (Ω : PySem.W.Frag) (g : Tgs) : TGs := fun us σ H Q => ∃ (c : Cor Ω) (ρ : Ev) (S : Sto) (ds : List D), Rel c S H ∧ RepE c H ρ σ ∧ RepL c.A H ds us ∧ AftG c S H (g ds ρ S) Q
abbrev SG (X : Cx) (e : Expr) (g : Tg) : Prop := PG X e (tG X.K g)
abbrev SGs (X : Cx) (es : List Expr) (g : Tgs) : Prop := PGs X es (tGs X.K g)
theorem PG.imp {X : Cx} {e : Expr} {t t' : TG} (h : PG X e t) (hi : ∀ v σ H Q, t' v σ H Q → t v σ H Q) : PG X e t' := ⟨by
  have := h.run
  intros
  apply this <;> first | assumption | (apply hi; assumption)⟩
theorem PGs.imp {X : Cx} {e : List Expr} {t t' : TGs} (h : PGs X e t) (hi : ∀ v σ H Q, t' v σ H Q → t v σ H Q) : PGs X e t' := ⟨by
  have := h.run
  intros
  apply this <;> first | assumption | (apply hi; assumption)⟩
def gNm (i : Nat) : Tg := fun v ρ S => .ok (ρ.set i (some v)) S
def gsNil : Tgs := fun ds ρ S => match ds with
  | [] => .ok ρ S
  | _ => .bad
def gsCons (g : Tg) (gs : Tgs) : Tgs := fun ds ρ S => match ds with
  | d :: r => (g (.d d) ρ S).bind fun ρ1 S1 => gs r ρ1 S1
  | [] => .bad
def gTp (n : Nat) (gs : Tgs) : Tg := fun v ρ S => match v with
  | .d (.tuple ds) => if ds.length = n then gs ds ρ S else .bad
  | _ => .bad
section
variable {X : Cx} {W : WX} {pos : Pos}
theorem AftG.later {c c1 : Cor Ω} {S S1 : Sto} {H H1 : Hp} (hr : Rel c S H) (x : Nx c S H c1 S1 H1) {r : R Ev} {Q : L2.St → Hp → Prop} (h : AftG c S H r Q) : AftG c1 S1 H1 r Q := by
  cases r with
  | ok a S' => exact fun c' σ' H' y e => h c' σ' H' (x.trans hr y) e
  | exc x S' => exact h
  | bad => exact h
theorem sg_name {i : Nat} {x : Str} (hN : X.N.Nodup) (hi : X.N[i]? = some x) (hx : Loc X.env.scope x) (hf : X.fn x = true ∨ X.env.scope.names.lookup x = some .local := by first | exact .inl rfl | exact .inr rfl | assumption) : SG X (.Name x pos) (gNm i) :=
  PG.imp (pg_name hN hi hx hf) fun u σ H Q ⟨c, ρ, S, v, hr, he, hv, q⟩ => q c _ H (Nx.refl hr) (he.set hv i)
theorem sgs_nil : SGs X [] gsNil := PGs.imp pgs_nil fun us σ H Q ⟨c, ρ, S, ds, hr, he, hv, q⟩ => by
  cases hv with
  | nil => exact ⟨rfl, q c σ H (Nx.refl hr) he⟩
  | cons _ _ => exact q.elim
theorem sgs_cons {e : Expr} {es : List Expr} {g : Tg} {gs : Tgs} (h1 : SG X e g) (h2 : SGs X es gs)
    (hs : (assignEach (e :: es) X.env).map (·.2) = assign e X.env :: (assignEach es X.env).map (·.2) := by rfl) : SGs X (e :: es) (gsCons g gs) := PGs.imp (pgs_cons h1 h2 hs) fun us σ H Q ⟨c, ρ, S, ds, hr, he, hv, q⟩ => by
  cases hv with
  | nil => exact q.elim
  | cons hd ht =>
    rename_i d ds v vs
    refine ⟨_, _, rfl, c, ρ, S, .d _, hr, he, hd, ?_⟩
    simp only [gsCons] at q
    revert q
    generalize g _ ρ S = r
    cases r with
    | ok ρ1 S1 => exact fun q c' σ' H' x e => ⟨c', ρ1, S1, _, x.rel, e, RepL.keep (x.kp hr) _ _ ht, AftG.later hr x q⟩
    | exc z S' => exact fun q => q
    | bad => exact fun q => q
theorem sg_tup {es : List Expr} {k : Nat} {n : Nat} {gs : Tgs} (h : PG X (.Tuple es k pos) (gTup X.K n (tGs X.K gs))) : SG X (.Tuple es k pos) (gTp n gs) := PG.imp h fun u σ H Q ⟨c, ρ, S, v, hr, he, hv, q⟩ => by
  unfold gTp at q
  split at q
  · split at q
    · rename_i ds hl
      cases hv with
      | tup h1 h2 h3 => exact ⟨_, _, rfl, SqT.of h1, by rw [← h3.length]; exact hl, c, ρ, S, ds, hr, he, h3, q⟩
    · exact q.elim
  · exact q.elim
/-- an assignment to a target -/
def sAsg (f : Ex) (g : Tg) : Blk := fun ρ S => (f ρ S).st ρ fun v S1 => ((g v ρ S1).noX).st ρ fun ρ1 S2 => .ok (.nx ρ1) S2
theorem aftG_of {mg : Str → Option Value} {c : Cor Ω} {S : Sto} {H : Hp} {ρ : Ev} {r : R Ev} {D : Ends} (h : AftS mg W c S H ((r.noX).st ρ fun ρ1 S2 => .ok (.nx ρ1) S2) D) : AftG c S H r D.nx := by
  cases r with
  | ok a S' => exact h
  | exc x S' => exact h.elim
  | bad => exact h.elim
theorem ss_asg {tg e : Expr} {f : Ex} {g : Tg} (h : PS X (.Assign [tg] e pos) (tAsg (tE X.K X.mg W f) (tG X.K g))) : SS X W (.Assign [tg] e pos) (sAsg f g) := PS.imp h fun D σ H ⟨c, ρ, S, hr, he, q⟩ =>
  ⟨c, ρ, S, hr, he, (Aft.st hr he q).mono fun v c1 S1 H1 x1 h1 u hu => ⟨c1, ρ, S1, v, x1.rel, he.keep hr x1, hu, aftG_of h1⟩⟩
end
/-! ### the store: a new place, a write -/
theorem Nx.make {c : Cor Ω} {S : Sto} {H : Hp} (r : Rel c S H) {p : Addr} {ho : HO} {o : O} (hp : H p = none) (nt : ∀ vs, ho ≠ .tup vs) (hn : ORep (⟨c.m ++ [p], fun a => c.A a ∨ a = p⟩ : Cor Ω) (upd H p ho) p o) :
    Nx c S H ⟨c.m ++ [p], fun a => c.A a ∨ a = p⟩ (S ++ [some o]) (upd H p ho) := by
  have na : ∀ a, c.A a → a ≠ p := fun a h e => by
    obtain ⟨q, z⟩ := r.tr a h
    rw [e, hp] at z; cases z
  have k : Kp c.A H (fun a => c.A a ∨ a = p) (upd H p ho) := ⟨fun a vs h => by rw [upd_ne (ne_of_none h hp)]; exact h, fun a q h _ => by rw [upd_ne (ne_of_none h hp)]; exact h, fun a q h z => by
    rcases z with z | z
    · exact z
    · exact absurd z (ne_of_none h hp)⟩
  have sp : ∀ {α : Type} (l : List α) (z : α) (n : Nat) (b : α), (l ++ [z])[n]? = some b → (l[n]? = some b ∧ n < l.length) ∨ (n = l.length ∧ z = b) := fun l z n b h => by
    rcases Nat.lt_trichotomy n l.length with q | q | q
    · rw [List.getElem?_append_left q] at h; exact .inl ⟨h, q⟩
    · subst q; simp at h; exact .inr ⟨rfl, h⟩
    · rw [List.getElem?_eq_none (by simp; omega)] at h; cases h
  have hlen := r.len
  refine ⟨⟨[p], rfl⟩, fun a h => ?_, fun a h _ => .inl h, ⟨by simp [hlen], ?_, ?_, ?_, ?_⟩, fun a q h _ => by rw [upd_ne (ne_of_none h hp)]; exact h, ?_⟩
  · rcases h with h | h
    · exact .inl h
    · subst h; exact .inr hp
  · intro n n' b p p' h1 h2 h3 h4
    rcases sp _ _ _ _ h1 with ⟨g1, l1⟩ | ⟨g1, g1'⟩ <;> rcases sp _ _ _ _ h2 with ⟨g2, l2⟩ | ⟨g2, g2'⟩
    · rcases sp _ _ _ _ h3 with ⟨f1, _⟩ | ⟨f1, _⟩ <;> rcases sp _ _ _ _ h4 with ⟨f2, _⟩ | ⟨f2, _⟩
      · exact r.inj n n' b p p' g1 g2 f1 f2
      · omega
      · omega
      · omega
    · subst g2'
      rcases sp _ _ _ _ h3 with ⟨f1, _⟩ | ⟨f1, _⟩
      · exact absurd rfl (na _ (r.ob n _ p g1 f1).1)
      · omega
    · subst g1'
      rcases sp _ _ _ _ h4 with ⟨f1, _⟩ | ⟨f1, _⟩
      · exact absurd rfl (na _ (r.ob n' _ p' g2 f1).1)
      · omega
    · omega
  · intro n b q h1 h3
    rcases sp _ _ _ _ h1 with ⟨g1, l1⟩ | ⟨g1, g1'⟩
    · rcases sp _ _ _ _ h3 with ⟨f1, _⟩ | ⟨f1, _⟩
      · obtain ⟨z1, z2⟩ := r.ob n b q g1 f1
        refine ⟨.inl z1, ?_⟩
        cases q with
        | lst ds => obtain ⟨vs, q1, q2, q3⟩ := z2; exact ⟨vs, by rw [upd_ne (na b z1)]; exact q1, q2, RepL.keep k _ _ q3⟩
        | dic ds => obtain ⟨vs, q1, q2, q3⟩ := z2; exact ⟨vs, by rw [upd_ne (na b z1)]; exact q1, q2, RepK.keep k _ _ q3⟩
      · omega
    · subst g1'
      rcases sp _ _ _ _ h3 with ⟨f1, l⟩ | ⟨f1, f2⟩
      · omega
      · cases f2
        exact ⟨.inr rfl, hn⟩
  · intro a h
    rcases h with h | h
    · obtain ⟨q, z⟩ := r.tr a h
      exact ⟨q, by rw [upd_ne (na a h)]; exact z⟩
    · subst h; exact ⟨ho, upd_same⟩
  · intro a vs h z
    rcases z with z | z
    · rw [upd_ne (na a z)] at h
      exact r.nt a vs h z
    · subst z
      rw [upd_same] at h
      exact nt vs (Option.some.inj h)
  · rintro b ⟨n, q, h1, h3⟩
    rcases sp _ _ _ _ h1 with ⟨g1, l1⟩ | ⟨g1, g1'⟩
    · rcases sp _ _ _ _ h3 with ⟨f1, _⟩ | ⟨f1, _⟩
      · exact .inl ⟨n, q, g1, f1⟩
      · omega
    · subst g1'; exact .inr hp
theorem make_kp {c : Cor Ω} {S : Sto} {H : Hp} (r : Rel c S H) {p : Addr} {ho : HO} (hp : H p = none) : Kp c.A H (fun a => c.A a ∨ a = p) (upd H p ho) := ⟨fun a vs h => by rw [upd_ne (ne_of_none h hp)]; exact h, fun a q h _ => by rw [upd_ne (ne_of_none h hp)]; exact h, fun a q h z => by
    rcases z with z | z
    · exact z
    · exact absurd z (ne_of_none h hp)⟩
/-- a live object is changed -/
theorem Nx.write {c : Cor Ω} {S : Sto} {H : Hp} (r : Rel c S H) {n : Nat} {a : Addr} {ho : HO} {o o' : O} (ha : c.m[n]? = some a) (hs : S[n]? = some (some o)) (nt : ∀ vs, ho ≠ .tup vs) (hn : ORep c (upd H a ho) a o') :
    Nx c S H c (S.set n (some o')) (upd H a ho) := by
  have hA := (r.ob n a o ha hs).1
  have hl : n < S.length := (List.getElem?_eq_some_iff.mp hs).1
  have k : Kp c.A H c.A (upd H a ho) := ⟨fun b vs h => by rw [upd_ne (show b ≠ a from fun z => r.nt b vs h (by rw [z]; exact hA))]; exact h, fun b q h z => by rw [upd_ne (show b ≠ a from fun y => z (by rw [y]; exact hA))]; exact h, fun _ _ _ z => z⟩
  have st : ∀ m q, (S.set n (some o'))[m]? = some (some q) → (m = n ∧ q = o') ∨ (m ≠ n ∧ S[m]? = some (some q)) := fun m q h => by
    by_cases e : n = m
    · subst e; rw [List.getElem?_set_self hl] at h; exact .inl ⟨rfl, (Option.some.inj (Option.some.inj h)).symm⟩
    · rw [List.getElem?_set_ne e] at h; exact .inr ⟨fun z => e z.symm, h⟩
  have lv : ∀ m q, (S.set n (some o'))[m]? = some (some q) → ∃ q', S[m]? = some (some q') := fun m q h => by
    rcases st m q h with ⟨rfl, _⟩ | ⟨_, h⟩
    · exact ⟨o, hs⟩
    · exact ⟨q, h⟩
  refine ⟨List.prefix_refl _, fun _ h => .inl h, fun _ h _ => h, ⟨by simpa using r.len, ?_, ?_, ?_, ?_⟩, fun b q h z => ?_, ?_⟩
  · intro m m' b q q' h1 h2 h3 h4
    obtain ⟨p, h5⟩ := lv m q h3
    obtain ⟨p', h6⟩ := lv m' q' h4
    exact r.inj m m' b p p' h1 h2 h5 h6
  · intro m b q h1 h3
    rcases st m q h3 with ⟨rfl, rfl⟩ | ⟨hne, h⟩
    · rw [ha] at h1; cases h1; exact ⟨hA, hn⟩
    · obtain ⟨z1, z2⟩ := r.ob m b q h1 h
      have hb : b ≠ a := fun z => by subst z; exact hne (r.inj m n b q o h1 ha h hs)
      refine ⟨z1, ?_⟩
      cases q with
      | lst ds => obtain ⟨vs, q1, q2, q3⟩ := z2; exact ⟨vs, by rw [upd_ne hb]; exact q1, q2, RepL.keep k _ _ q3⟩
      | dic ds => obtain ⟨vs, q1, q2, q3⟩ := z2; exact ⟨vs, by rw [upd_ne hb]; exact q1, q2, RepK.keep k _ _ q3⟩
  · intro b h
    by_cases e : b = a
    · subst e; exact ⟨ho, upd_same⟩
    · obtain ⟨q, z⟩ := r.tr b h
      exact ⟨q, by rw [upd_ne e]; exact z⟩
  · intro b vs h z
    by_cases e : b = a
    · subst e; rw [upd_same] at h; exact nt vs (Option.some.inj h)
    · rw [upd_ne e] at h; exact r.nt b vs h z
  · by_cases e : b = a
    · subst e; exact absurd ⟨n, o, ha, hs⟩ z
    · rw [upd_ne e]; exact h
  · rintro b ⟨m, q, h1, h3⟩
    obtain ⟨p, h5⟩ := lv m q h3
    exact .inl ⟨m, p, h1, h5⟩
theorem write_kp {c : Cor Ω} {S : Sto} {H : Hp} (r : Rel c S H) {n : Nat} {a : Addr} {ho : HO} {o : O} (ha : c.m[n]? = some a) (hs : S[n]? = some (some o)) : Kp c.A H c.A (upd H a ho) := by
  have hA := (r.ob n a o ha hs).1
  exact ⟨fun b vs h => by rw [upd_ne (show b ≠ a from fun z => r.nt b vs h (by rw [z]; exact hA))]; exact h, fun b q h z => by rw [upd_ne (show b ≠ a from fun y => z (by rw [y]; exact hA))]; exact h, fun _ _ _ z => z⟩
end DL

namespace DL
open PySem PySem.Spec PyProof.Rows L2
/-! ### objects in the store -/
def mkLoc (vs : List Val) (S : Sto) : R Val := match allD vs with
  | some ds => if ds.length ≤ 1000 then .ok (.loc S.length) (S ++ [some (.lst ds)]) else .bad
  | none => .bad
def eLstM (f : La) : Ex := fun ρ S => (f ρ S).bind mkLoc
def eDicM : Ex := fun _ S => .ok (.loc S.length) (S ++ [some (.dic [])])
def appL (v w : Val) (S : Sto) : R Val := match v, w with
  | .loc n, .d x => match S[n]? with
    | some (some (.lst ds)) => if ds.length < sizeLine then .ok (.d .none) (S.set n (some (.lst (ds ++ [x])))) else .bad
    | _ => .bad
  | _, _ => .bad
def isLst (S : Sto) (v : Val) : Bool := match v with
  | .loc n => match S[n]? with
    | some (some (.lst _)) => true
    | _ => false
  | _ => false
def eApp (fo fe : Ex) : Ex := fun ρ S => (fo ρ S).bind fun v S1 => match isLst S1 v with
  | true => (fe ρ S1).bind fun w S2 => appL v w S2
  | false => .bad
/-- o[k] = w in the store -/
def setL (v k w : Val) (S : Sto) : R Unit := match v, k, w with
  | .loc n, .d (.int i), .d x => match S[n]? with
    | some (some (.lst ds)) => match ixN ds.length i with
      | some j => .ok () (S.set n (some (.lst (ds.set j x))))
      | none => .bad
    | _ => .bad
  | _, _, _ => .bad
def putKD (kds : List (Key × D)) (k : Key) (v : D) : List (Key × D) := if kds.any (fun kv => decide (kv.1 = k)) then kds.map (fun kv => if kv.1 = k then (kv.1, v) else kv) else kds ++ [(k, v)]
def setD (v k w : Val) (S : Sto) : R Unit := match v, k, w with
  | .loc n, .d i, .d x => match S[n]?, keyOf i with
    | some (some (.dic kds)), some kk => if kds.length < sizeLine then .ok () (S.set n (some (.dic (putKD kds kk x)))) else .bad
    | _, _ => .bad
  | _, _, _ => .bad
def sPut (p : Val → Val → Val → Sto → R Unit) (fo fi fe : Ex) : Blk := fun ρ S => (fe ρ S).st ρ fun w S1 => (fo ρ S1).st ρ fun v S2 => (fi ρ S2).st ρ fun k S3 => (p v k w S3).st ρ fun _ S4 => .ok (.nx ρ) S4
def gSb (p : Val → Val → Val → Sto → R Unit) (fo fi : Ex) : Tg := fun w ρ S => ((fo ρ S).noX).bind fun v S2 => ((fi ρ S2).noX).bind fun k S3 => (p v k w S3).bind fun _ S4 => .ok ρ S4
section
variable {X : Cx} {W : WX} {pos : Pos}
theorem mkLoc_r {mg : Str → Option Value} {vs : List Val} {us : List V} {c : Cor Ω} {S : Sto} {H : Hp} {σ : L2.St} {Q : VK} (hr : Rel c S H) (hv : VRepL c H vs us) (h : Aft mg W c S σ H (mkLoc vs S) fun v c' _ H' => ∀ u, VRep c' H' v u → Q u H') :
    us.length ≤ sizeLine ∧ ∀ p, H p = none → Q (.ref p) (upd H p (.lst us)) := by
  unfold mkLoc at h
  split at h
  · rename_i ds e
    split at h
    · rename_i hl
      have r := allD_rep hv e
      have hz : us.length ≤ sizeLine := by rw [← r.length, sizeLine_eq]; omega
      refine ⟨hz, fun p hp => ?_⟩
      refine h _ _ (Nx.make (ho := .lst us) (o := .lst ds) hr hp (fun _ z => by cases z) ⟨us, upd_same, hz, RepL.keep (make_kp hr hp) _ _ r⟩) _ ⟨p, ?_, rfl⟩
      rw [← hr.len]; simp
    · exact h.elim
  · exact h.elim
theorem se_lstM {es : List Expr} {f : La} (h : SA X W es f) : SE X W (.List es pos) (eLstM f) := PE.imp (pe_lst h) fun σ H Q ⟨c, ρ, S, hr, he, q⟩ =>
  ⟨c, ρ, S, hr, he, (Aft.bind hr q).mono fun vs c1 S1 H1 x1 h1 us hus => mkLoc_r x1.rel hus h1⟩
theorem se_dicM : SE X W (.Dict [] [] pos) eDicM := PE.imp pe_dnewK fun σ H Q ⟨c, ρ, S, hr, he, q⟩ p hp => by
  refine q _ _ (Nx.make (ho := .dK []) (o := .dic []) hr hp (fun _ z => by cases z) ⟨[], upd_same, Nat.zero_le _, .nil⟩) _ ⟨p, ?_, rfl⟩
  rw [← hr.len]; simp
/-- an empty dict that is never changed -/
theorem se_dic0 : SE X W (.Dict [] [] pos) (eC (.dict [])) := PE.imp pe_dnewK fun σ H Q ⟨c, ρ, S, hr, he, q⟩ p hp =>
  q _ _ (Nx.new hr hp) _ (.dic (fun z => by obtain ⟨o, q⟩ := hr.tr p z; rw [hp] at q; cases q) (.inl upd_same) (Nat.zero_le _) .nil)
theorem isLst_at {c : Cor Ω} {S : Sto} {H : Hp} {v : Val} {u : V} (hr : Rel c S H) (hv : VRep c H v u) (h : isLst S v = true) : ∃ n a ds vs, v = .loc n ∧ u = .ref a ∧ c.m[n]? = some a ∧ S[n]? = some (some (.lst ds)) ∧ H a = some (.lst vs) ∧ vs.length ≤ sizeLine ∧ RepL c.A H ds vs := by
  unfold isLst at h
  split at h
  · rename_i n
    split at h
    · rename_i ds e
      obtain ⟨a, h1, h2⟩ := hv
      obtain ⟨_, vs, q1, q2, q3⟩ := hr.ob n a _ h1 e
      exact ⟨n, a, ds, vs, rfl, h2, h1, e, q1, q2, q3⟩
    · cases h
  · cases h
theorem se_app {o e : Expr} {fo fe : Ex} {apos : Pos} (ho : SE X W o fo) (he : SE X W e fe) (hbase : attributeBase o "append" X.env (eval o X.env) = eval o X.env := by rfl)
    (hfew : ((backTo pos (starEach [e] X.env)).all (fun x => !x.1) && (backToKw pos (keywordEach [] X.env)).all (fun x => x.1.isSome)
      && decide ([e].length + ([] : List Keyword).length + (if ([] : List Keyword).isEmpty then 0 else 1) < 30)) = true := by rfl)
    (hline : (apos.endLine == pos.line) = true := by rfl) (hs : starEach [e] X.env = (false, eval e X.env) :: starEach [] X.env := by rfl) :
    SE X W (.Call (.Attribute o "append" apos) [e] [] pos) (eApp fo fe) :=
  PE.imp (pe_bm PySem.F.plainAttrs_list PySem.F.slot_list_append PySem.F.type_list_append mt_append ho (pa_cons he pa_nil hs) hbase hfew hline hs rfl) fun σ H Q ⟨c, ρ, S, hr, he, q⟩ => by
    refine ⟨c, ρ, S, hr, he, (Aft.bind hr q).mono fun v c1 S1 H1 x1 h1 u hu => ?_⟩
    cases e1 : isLst S1 v with
    | false => simp only [e1] at h1; exact h1.elim
    | true =>
      simp only [e1] at h1
      obtain ⟨n, a, ds, vs, rfl, rfl, g1, g2, g3, g4, g5⟩ := isLst_at x1.rel hu e1
      refine ⟨.inl ⟨rfl, vs, SqL.of g3⟩, c1, ρ, S1, x1.rel, he.keep hr x1, (Aft.bind x1.rel h1).mono fun w c2 S2 H2 x2 h2 y hy => ?_⟩
      have hv2 : VRep c2 H2 (.loc n) (.ref a) := ⟨a, prefix_get x2.pre g1, rfl⟩
      show rAppend (.ref a) [y] H2 Q
      cases w with
      | loc _ => exact h2.elim
      | scr _ => exact h2.elim
      | er _ => exact h2.elim
      | d x =>
        simp only [appL] at h2
        split at h2
        · rename_i ds2 e2
          split at h2
          · rename_i hl
            obtain ⟨_, vs2, q1, q2, q3⟩ := x2.rel.ob n a _ (prefix_get x2.pre g1) e2
            refine ⟨a, vs2, y, rfl, rfl, q1, by rw [← q3.length]; exact hl, ?_⟩
            refine h2 c2 _ (Nx.write x2.rel (prefix_get x2.pre g1) e2 (fun _ z => by cases z) ⟨vs2 ++ [y], upd_same, ?_, ?_⟩) _ .non
            · rw [List.length_append, ← q3.length]; exact hl
            · exact (RepL.keep (write_kp x2.rel (prefix_get x2.pre g1) e2) _ _ q3).append (.cons (Rep.keep (write_kp x2.rel (prefix_get x2.pre g1) e2) _ _ hy) .nil)
          · exact h2.elim
        · exact h2.elim
/-- what a store needs of its reading -/
def SetOk (Ω : PySem.W.Frag) (t : TSet) (p : Val → Val → Val → Sto → R Unit) : Prop := ∀ (mg : Str → Option Value) (W : WX) (c : Cor Ω) (S : Sto) (H : Hp) (σ : L2.St) (v k w : Val) (x y z : V) (Q : Hp → Prop), Rel c S H → VRep c H v x → VRep c H k y → VRep c H w z →
  Aft mg W c S σ H (p v k w S) (fun _ _ _ H' => Q H') → t x y z H Q
theorem setL_ok : SetOk Ω rSetL setL := by
  intro mg W c S H σ v k w x y z Q hr hv hk hw h
  unfold setL at h
  split at h
  · rename_i n i d
    split at h
    · rename_i ds e
      split at h
      · rename_i j hj
        obtain ⟨a, h1, h2⟩ := hv
        subst h2
        cases hk
        obtain ⟨_, vs, q1, q2, q3⟩ := hr.ob n a _ h1 e
        refine ⟨a, vs, i, j, rfl, rfl, q1, by rw [← q3.length]; exact hj, ?_⟩
        exact h c _ (Nx.write hr h1 e (fun _ z => by cases z) ⟨vs.set j z, upd_same, by simpa using q2, RepL.set (Rep.keep (write_kp hr h1 e) _ _ hw) j (RepL.keep (write_kp hr h1 e) _ _ q3)⟩)
      · exact h.elim
    · exact h.elim
  · exact h.elim
theorem any_key {A : Addr → Prop} {H : Hp} (k : Key) : ∀ {kds : List (Key × D)} {kvs : List (Key × V)}, RepK A H (kds.map fun p => (keyD p.1, p.2)) kvs → (kds.any fun kv => decide (kv.1 = k)) = (kvs.any fun kv => decide (kv.1 = k))
  | [], _, h => by cases h; rfl
  | (j, d) :: kds, _, h => by
    generalize hl : (((j, d) :: kds).map fun p => (keyD p.1, p.2)) = l at h
    cases h with
    | nil => cases hl
    | cons h1 h2 =>
      rename_i k' d' v' ds' vs'
      simp only [List.map_cons, List.cons.injEq, Prod.mk.injEq] at hl
      obtain ⟨⟨e1, e2⟩, e3⟩ := hl
      have e4 : j = k' := Option.some.inj ((keyOf_keyD j).symm.trans ((congrArg keyOf e1).trans (keyOf_keyD k')))
      subst e4 e3
      rw [List.any_cons, List.any_cons, any_key k h2]
theorem rep_put {A : Addr → Prop} {H : Hp} {k : Key} {d : D} {v : V} (hd : Rep A H d v) : ∀ {kds : List (Key × D)} {kvs : List (Key × V)}, RepK A H (kds.map fun p => (keyD p.1, p.2)) kvs →
    RepK A H ((kds.map (fun kv => if kv.1 = k then (kv.1, d) else kv)).map fun p => (keyD p.1, p.2)) (kvs.map fun kv => if kv.1 = k then (kv.1, v) else kv)
  | [], _, h => by cases h; exact .nil
  | (j, e) :: kds, _, h => by
    generalize hl : (((j, e) :: kds).map fun p => (keyD p.1, p.2)) = l at h
    cases h with
    | nil => cases hl
    | cons h1 h2 =>
      rename_i k' d' v' ds' vs'
      simp only [List.map_cons, List.cons.injEq, Prod.mk.injEq] at hl
      obtain ⟨⟨e1, e2⟩, e3⟩ := hl
      have e4 : j = k' := Option.some.inj ((keyOf_keyD j).symm.trans ((congrArg keyOf e1).trans (keyOf_keyD k')))
      subst e4 e3 e2
      rw [List.map_cons, List.map_cons, List.map_cons]
      by_cases q : j = k
      · subst q
        simp only [if_true]
        exact .cons hd (rep_put hd h2)
      · simp only [if_neg q]
        exact .cons h1 (rep_put hd h2)
theorem RepK.append {A : Addr → Prop} {H : Hp} : ∀ {a b : List (D × D)} {x y : List (Key × V)}, RepK A H a x → RepK A H b y → RepK A H (a ++ b) (x ++ y)
  | _, _, _, _, .nil, s => s
  | _, _, _, _, .cons h r, s => .cons h (RepK.append r s)
theorem putK_rep {A : Addr → Prop} {H : Hp} {k : Key} {d : D} {v : V} (hd : Rep A H d v) {kds : List (Key × D)} {kvs : List (Key × V)} (h : RepK A H (kds.map fun p => (keyD p.1, p.2)) kvs) :
    RepK A H ((putKD kds k d).map fun p => (keyD p.1, p.2)) (putK kvs k v) := by
  unfold putKD putK
  rw [any_key k h]
  split
  · exact rep_put hd h
  · rw [List.map_append]; exact h.append (.cons hd .nil)
theorem setD_ok {X : Cx} : SetOk Ω (fun x y z H Q => ∃ a H', x = .ref a ∧ DPut H a y z H' ∧ Q H') setD := by
  intro mg W c S H σ v k w x y z Q hr hv hk hw h
  unfold setD at h
  split at h
  · rename_i n i d
    split at h
    · rename_i kds kk e e2
      split at h
      · rename_i hl
        obtain ⟨a, h1, h2⟩ := hv
        subst h2
        obtain ⟨_, kvs, q1, q2, q3⟩ := hr.ob n a _ h1 e
        have ek := keyOf_eq e2
        subst ek
        have e3 : y = kV kk := rep_key (A := c.A) (H := H) hk
        subst e3
        have hl' : kvs.length < sizeLine := by rw [← q3.length]; simpa using hl
        refine ⟨a, _, rfl, DPut.k q1 hl', ?_⟩
        exact h c _ (Nx.write hr h1 e (fun _ z => by cases z) ⟨putK kvs kk z, upd_same, Nat.le_trans (length_putK _ _ _) hl', putK_rep (Rep.keep (write_kp hr h1 e) _ _ hw) (RepK.keep (write_kp hr h1 e) _ _ q3)⟩)
      · exact h.elim
    · exact h.elim
  · exact h.elim
theorem put_r {mg : Str → Option Value} {t : TSet} {p : Val → Val → Val → Sto → R Unit} (hp : SetOk Ω t p) {fo fi fe : Ex} {D : Ends} {σ : L2.St} {H : Hp} (h : tS Ω mg W (sPut p fo fi fe) D σ H) :
    tAsg (tE Ω mg W fe) (gSub (tE Ω mg W fo) (tE Ω mg W fi) t) D σ H := by
  obtain ⟨c, ρ, S, hr, he, q⟩ := h
  refine ⟨c, ρ, S, hr, he, (Aft.st hr he q).mono fun w c1 S1 H1 x1 h1 z hz => ?_⟩
  have he1 := he.keep hr x1
  refine ⟨c1, ρ, S1, x1.rel, he1, (Aft.st x1.rel he1 h1).mono fun v c2 S2 H2 x2 h2 x hx => ?_⟩
  have he2 := he1.keep x1.rel x2
  refine ⟨c2, ρ, S2, x2.rel, he2, (Aft.st x2.rel he2 h2).mono fun k c3 S3 H3 x3 h3 y hy => ?_⟩
  have he3 := he2.keep x2.rel x3
  exact hp mg W c3 S3 H3 σ v k w x y z _ x3.rel (hx.keep x2.rel x3) hy ((hz.keep x1.rel x2).keep x2.rel x3) ((Aft.st x3.rel he3 h3).mono fun _ c4 S4 H4 x4 h4 => h4 c4 σ H4 (Nx.refl x4.rel) (he3.keep x3.rel x4))
theorem ss_setL {o i e : Expr} {fo fi fe : Ex} {pos' : Pos} (ho : SE X W o fo) (hi : SE X W i fi) (he : SE X W e fe)
    (h : PS X (.Assign [.Subscript o i pos'] e pos) (tAsg (tE X.K X.mg W fe) (gSub (tE X.K X.mg W fo) (tE X.K X.mg W fi) rSetL))) : SS X W (.Assign [.Subscript o i pos'] e pos) (sPut setL fo fi fe) := PS.imp h fun D σ H q => put_r setL_ok q
theorem ss_setD (hu : X.A.units + 1 < cLine) {o i e : Expr} {fo fi fe : Ex} {pos' : Pos} (ho : SE X W o fo) (hi : SE X W i fi) (he : SE X W e fe)
    (hs : swapsWith e (some (.Subscript o i pos')) pos.line X.env = pure false := by rfl) : SS X W (.Assign [.Subscript o i pos'] e pos) (sPut setD fo fi fe) := PS.imp (ps_dput hu ho hi he hs) fun D σ H q => put_r (setD_ok (X := X)) q
theorem noX_r {mg : Str → Option Value} {α β : Type} {c : Cor Ω} {S : Sto} {H : Hp} {σ : L2.St} (hr : Rel c S H) {r : R α} {k : α → Sto → R Ev} {Q : L2.St → Hp → Prop} (h : AftG c S H ((r.noX).bind k) Q) :
    Aft mg W c S σ H r fun a c1 S1 H1 => AftG c1 S1 H1 (k a S1) Q := by
  cases r with
  | ok a S1 => exact fun c1 H1 x => AftG.later hr x h
  | exc x S' => exact h.elim
  | bad => exact h.elim
theorem sg_sub {o i : Expr} {fo fi : Ex} {t : TSet} {p : Val → Val → Val → Sto → R Unit} (ho : SE X W o fo) (hi : SE X W i fi) (hp : SetOk X.K t p) (h : PG X (.Subscript o i pos) (gSub (tE X.K X.mg W fo) (tE X.K X.mg W fi) t)) : SG X (.Subscript o i pos) (gSb p fo fi) :=
  PG.imp h fun u σ H Q ⟨c, ρ, S, w, hr, he, hv, q⟩ => by
    refine ⟨c, ρ, S, hr, he, (noX_r (β := Val) hr q).mono fun v c2 S2 H2 x2 h2 x hx => ?_⟩
    refine ⟨c2, ρ, S2, x2.rel, he.keep hr x2, (noX_r (β := Val) x2.rel h2).mono fun k c3 S3 H3 x3 h3 y hy => ?_⟩
    refine hp X.mg (fun _ _ _ _ => False) c3 S3 H3 σ v k w x y u _ x3.rel (hx.keep x2.rel x3) hy ((hv.keep hr x2).keep x2.rel x3) ?_
    revert h3
    generalize p v k w S3 = r
    cases r with
    | ok a S4 => exact fun h3 c4 H4 x4 => h3 c4 σ H4 x4 (((he.keep hr x2).keep x2.rel x3).keep x3.rel x4)
    | exc _ _ => exact fun h3 => h3.elim
    | bad => exact fun h3 => h3
end
/-! ### while -/
def whileN (t : Te) (g : Blk) : Nat → Blk
  | 0 => fun _ _ => .bad
  | n + 1 => fun ρ S => (t ρ S).st ρ fun b S1 => match b with
    | false => .ok (.nx ρ) S1
    | true => match g ρ S1 with
      | .ok (.nx ρ') S' => whileN t g n ρ' S'
      | .ok (.ct ρ') S' => whileN t g n ρ' S'
      | .ok (.bk ρ') S' => .ok (.nx ρ') S'
      | r => r
theorem ss_while {X : Cx} {W : WX} {pos : Pos} {e : Expr} {body : List Stmt} {t : Te} {g : Blk} (n : Nat) (hp : PassesOwn (model X.prog X.w) X.A X.env X.xe) (ht : ST X W e t) (hg : SSs X W body g) : SS X W (.While e body [] pos) (whileN t g n) :=
  PS.imp (ps_while hp ht hg) fun D σ H ⟨c, ρ, S, hr, he, q⟩ => by
    refine ⟨fun m σ H => ∃ (c : Cor X.K) (ρ : Ev) (S : Sto), Rel c S H ∧ RepE c H ρ σ ∧ AftS X.mg W c S H (whileN t g m ρ S) D, ⟨n, c, ρ, S, hr, he, q⟩, ?_⟩
    rintro m σ H ⟨c, ρ, S, hr, he, q⟩
    cases m with
    | zero => exact q.elim
    | succ m =>
      refine ⟨c, ρ, S, hr, he, (Aft.st hr he q).mono fun b c1 S1 H1 x1 h1 => ?_⟩
      have he1 := he.keep hr x1
      cases b with
      | false => exact iteF (h1 c1 σ H1 (Nx.refl x1.rel) he1)
      | true =>
        refine iteT ⟨fun σ' H' => ∃ (c : Cor X.K) (ρ : Ev) (S : Sto), Rel c S H' ∧ RepE c H' ρ σ' ∧ AftS X.mg W c S H' (whileN t g m ρ S) D, fun σ' H' z => ⟨m, Nat.lt_succ_self m, z⟩, c1, ρ, S1, x1.rel, he1, ?_⟩
        revert h1
        simp only
        cases g ρ S1 with
        | ok fl S' =>
          cases fl with
          | nx ρ' => exact fun h1 c2 σ2 H2 x2 e2 => ⟨c2, ρ', S', x2.rel, e2, AftS.later x1.rel x2 h1⟩
          | ct ρ' => exact fun h1 c2 σ2 H2 x2 e2 => ⟨c2, ρ', S', x2.rel, e2, AftS.later x1.rel x2 h1⟩
          | bk ρ' => exact fun h1 => h1
          | rt v => exact fun h1 => h1
          | ex z ρ' => exact fun h1 => h1
        | exc z S' => exact fun h1 => h1
        | bad => exact fun h1 => h1
/-! ### for -/
structure WD (c : Cor Ω) (S : Sto) (H : Hp) (ds : List D) (J : It) : Prop where
  walk : Walk J ds.length (fun H' => ∀ a o, H a = some o → ¬ live c S a → H' a = some o)
    (fun i H1 x H2 => ∃ d, ds[i]? = some d ∧ (H2 = H1 ∨ ∃ T vs, H1 T = none ∧ H2 = upd H1 T (.tup vs)) ∧ ∀ A : Addr → Prop, (∀ a o, H a = some o → A a → c.A a) → Rep A H2 d x)
  len : ds.length ≤ sizeLine
abbrev Iy := Ev → Sto → R (List D)
def tI (Ω : PySem.W.Frag) (mg : Str → Option Value) (W : WX) (f : Iy) : TI := fun σ H R' => ∃ (c : Cor Ω) (ρ : Ev) (S : Sto), Rel c S H ∧ RepE c H ρ σ ∧ Aft mg W c S σ H (f ρ S) fun ds c' S' H' => ∀ J, WD c' S' H' ds J → R' J H'
abbrev SI (X : Cx) (W : WX) (tg e : Expr) (f : Iy) : Prop := PI X tg e (tI X.K X.mg W f)
theorem PI.imp {X : Cx} {tg e : Expr} {t t' : TI} (h : PI X tg e t) (hi : ∀ σ H R, t' σ H R → t σ H R) : PI X tg e t' := ⟨fun pins s σ H R I hw => h.run pins s σ H R I (hi σ H R hw)⟩
theorem PI.or {X : Cx} {tg e : Expr} {t t' : TI} (h : PI X tg e t) (h' : PI X tg e t') : PI X tg e (fun σ H R => t σ H R ∨ t' σ H R) := ⟨fun pins s σ H R I hw => by
  rcases hw with hw | hw
  · exact h.run pins s σ H R I hw
  · exact h'.run pins s σ H R I hw⟩
def forL (tg : Tg) (g : Blk) : List D → Blk
  | [], ρ, S => .ok (.nx ρ) S
  | d :: ds, ρ, S => ((tg (.d d) ρ S).noX).st ρ fun ρ1 S1 => match g ρ1 S1 with
    | .ok (.nx ρ') S' => forL tg g ds ρ' S'
    | .ok (.ct ρ') S' => forL tg g ds ρ' S'
    | .ok (.bk ρ') S' => .ok (.nx ρ') S'
    | r => r
def sFor (fi : Iy) (tg : Tg) (g : Blk) : Blk := fun ρ S => (fi ρ S).st ρ fun ds S1 => forL tg g ds ρ S1
theorem for_r {mg : Str → Option Value} {W : WX} {fi : Iy} {t : Tg} {g : Blk} {D : Ends} {σ : L2.St} {H : Hp} (h : tS Ω mg W (sFor fi t g) D σ H) : tFor (tI Ω mg W fi) (tG Ω t) (tS Ω mg W g) D σ H := by
    obtain ⟨c, ρ, S, hr, he, q⟩ := h
    refine ⟨c, ρ, S, hr, he, (Aft.st hr he q).mono fun ds c1 S1 H1 x1 h1 J wd => ?_⟩
    have he1 := he.keep hr x1
    have r1 := x1.rel
    refine for_it wd.walk (fun i σ H => ∃ c' ρ' S', Nx c1 S1 H1 c' S' H ∧ RepE c' H ρ' σ ∧ AftS mg W c' S' H (forL t g (ds.drop i) ρ' S') D) ⟨c1, ρ, S1, Nx.refl r1, he1, h1⟩ (fun i σ H _ ⟨c', ρ', S', x, _⟩ => x.fr) ?_ ?_
    · rintro i x σ2 H2 H3 hi ⟨c', ρ', S', x2, e2, q2⟩ ⟨d, hd, hg, hrep⟩
      have hx3 : Nx c' S' H2 c' S' H3 := by
        rcases hg with rfl | ⟨T, vs, hT, rfl⟩
        · exact Nx.refl x2.rel
        · exact Nx.new x2.rel hT
      have hdrop : ds.drop i = d :: ds.drop (i + 1) := by
        obtain ⟨hl, e⟩ := List.getElem?_eq_some_iff.mp hd
        rw [List.drop_eq_getElem_cons hl, e]
      rw [hdrop] at q2
      have q3 := AftS.later x2.rel hx3 q2
      have y := x2.trans r1 hx3
      refine ⟨c', ρ', S', .d d, hx3.rel, e2.keep x2.rel hx3, hrep c'.A (fun a o ha z => by
        rcases x2.grow a z with z | z
        · exact z
        · rw [ha] at z; cases z), ?_⟩
      revert q3
      simp only [forL]
      cases t (.d d) ρ' S' with
      | exc _ _ => exact fun q3 => q3.elim
      | bad => exact fun q3 => q3.elim
      | ok ρ1 S2 =>
        intro q3 c4 σ4 H4 x4 e4
        have q4 := AftS.later hx3.rel x4 q3
        refine ⟨c4, ρ1, S2, x4.rel, e4, ?_⟩
        revert q4
        simp only [R.noX, R.st]
        cases g ρ1 S2 with
        | ok fl S5 =>
          cases fl with
          | nx ρ' => exact fun h1 c5 σ5 H5 x5 e5 => ⟨c5, ρ', S5, (y.trans r1 x4).trans r1 x5, e5, AftS.later x4.rel x5 h1⟩
          | ct ρ' => exact fun h1 c5 σ5 H5 x5 e5 => ⟨c5, ρ', S5, (y.trans r1 x4).trans r1 x5, e5, AftS.later x4.rel x5 h1⟩
          | bk ρ' => exact fun h1 => h1
          | rt v => exact fun h1 => h1
          | ex z ρ' => exact fun h1 => h1
        | exc z S' => exact fun h1 => h1
        | bad => exact fun h1 => h1
    · rintro σ2 H2 ⟨c', ρ', S', x2, e2, q2⟩
      rw [List.drop_length] at q2
      exact q2 c' σ2 H2 (Nx.refl x2.rel) e2
theorem ss_for {X : Cx} {W : WX} {pos : Pos} {tg e : Expr} {body : List Stmt} {fi : Iy} {t : Tg} {g : Blk} (hp : PassesOwn (model X.prog X.w) X.A X.env X.xe) (hc : X.calm = true) (hi : SI X W tg e fi) (ht : SG X tg t) (hg : SSs X W body g)
    (hs : ∀ x, foldedSetIterable e X.env x = pure x := by intro _; rfl) : SS X W (.For tg e body [] pos) (sFor fi t g) :=
  PS.imp (ps_for hp hc hi ht hg hs) fun D σ H h => for_r h
end DL

namespace DL
open PySem PySem.Spec PyProof.Rows L2
open Sem (wp)
open AutoSeq1 (wpAny_loadPart')
/-! ### enumerate(tuple) -/
theorem meets_enum1 {v : Value} {o : Obj} {H : Heap → Prop} (B : Begins v o H) :
    Meets (Builtin.«enumerate.__new__» ⟨[.type "enumerate", v], []⟩) (fun _ R s => H s.heap ∧
      R (.ok (.ret (.ref (s.heap.push o).objs.size))) { s with heap := (s.heap.push o).push { cls := .type "enumerate", data := .fields #[.none, .bool false, .ref s.heap.objs.size, rawInt 0, .none, .none] } }) :=
  .of_wp fun prog w A R s h => by
    obtain ⟨hp, g, d, tk, os⟩ := s; obtain ⟨h1, h⟩ := h
    have hsub := sub_enumerate
    have q1 : ∀ {A' : Around} {E : Value → Shared → Prop} {Q : Value → Shared → Prop}, Q (.ref hp.objs.size) ⟨hp.push o, g, d, tk, os⟩ → wpAny (model prog w) A' (pyIter v) Q E ⟨hp, g, d, tk, os⟩ :=
      fun q => B.iter prog w _ _ ⟨hp, g, d, tk, os⟩ _ h1 q
    wp_walk using q1
    refine wpAny_stack_any fun st => wpAny_pure ?_
    split
    · rename_i c _ _ _ _ _
      cases (c == Value.type "enumerate")
      · wp_walk using q1
        exact ⟨_, rfl, h⟩
      · wp_walk using q1
        exact ⟨_, rfl, h⟩
    · wp_walk using q1
      exact ⟨_, rfl, h⟩
theorem enum_begins1 {prog : Program} {w : World} {A : Around} {E : Value → Shared → Prop} {s : Shared} {v : Value} {o : Obj} {H : Heap → Prop} {Q : Value → Shared → Prop} (B : Begins v o H) (h1 : H s.heap)
    (h : ∀ h', IsEnum h' (s.heap.objs.size + 1) s.heap.objs.size 0 .none → h'.get? s.heap.objs.size = some o → h'.objs.size = s.heap.objs.size + 2 →
      (∀ b o, s.heap.get? b = some o → h'.get? b = some o) → Q (.ref (s.heap.objs.size + 1)) { s with heap := h' }) :
    wpAny (model prog w) A (call (.type "enumerate") [v]) Q E s := by
  refine callType_new F.called_enumerate (by decide) (F.typeCall_enumerate_1 _) (F.newCall_enumerate_1 _) (fun obj => F.args_object_init_2 obj _) F.entry_enumerate_new
    (meets_enum1 B) ⟨h1, ?_⟩
  have hz : (s.heap.push o).objs.size = s.heap.objs.size + 1 := Heap.size_push ..
  show _ ∧ _
  rw [hz]
  have he : IsEnum ((s.heap.push o).push { cls := .type "enumerate", data := .fields #[.none, .bool false, .ref s.heap.objs.size, rawInt 0, .none, .none] }) (s.heap.objs.size + 1) s.heap.objs.size 0 .none := by
    have := Heap.get?_push_size (s.heap.push o) (o := { cls := .type "enumerate", data := .fields #[.none, .bool false, .ref s.heap.objs.size, rawInt 0, .none, .none] }) rfl
    rw [hz] at this; exact this
  refine ⟨⟨_, he, rfl⟩, h _ he (Heap.get?_push_of_some _ (Heap.get?_push_size _ B.free)) (by rw [Heap.size_push, hz]) fun b o x => Heap.get?_push_of_some _ (Heap.get?_push_of_some _ x)⟩
/-- the tuple at a, each item in a new pair -/
def IteT (K : PySem.W.Frag) (a : Addr) : It :=
  ⟨fun i H => ∃ (xs : List V) (x : V), SqT K H a xs ∧ xs[i]? = some x, fun i H v H' => ∃ T x, v = .ref T ∧ H T = none ∧ H' = upd H T (.tup [.int (i : Nat), x]) ∧ ∀ xs, SqT K H a xs → xs[i]? = some x, fun i H => ∃ xs : List V, SqT K H a xs ∧ xs.length = i⟩
theorem turn_enumT {P : Program} {w : World} {K : PySem.W.Frag} {elts : List Expr} {kk : Nat} {tpos : Pos} (a e it : Addr) :
    Turn P w K (.Tuple elts kk tpos) (IteT K a) [e, it] e (fun i h => (∃ old, IsEnum h e it ((i : Nat) : Int) old) ∧ h.IsTupleIter it a i ∧ e ≠ it) where
  mem := by simp
  obj := fun i h st b hb => by
    obtain ⟨⟨old, he⟩, ⟨o, ho, hc, hd⟩, _⟩ := st
    have e' : b = e ∨ b = it := by simpa using hb
    rcases e' with z | z
    · rw [z]; exact ⟨_, he, fun v q => nomatch q⟩
    · rw [z]; exact ⟨o, ho, fun v q => by rw [hd] at q; cases q⟩
  keep := fun i h h' st k => let ⟨⟨old, he⟩, hi, hne⟩ := st; ⟨⟨old, k e (by simp) _ he⟩, hi.at fun o q => k it (by simp) o q, hne⟩
  item := by
    intro X hP hw hK hc i pins s σ H E I hf st hg
    subst hP hw hK
    obtain ⟨⟨old, he⟩, hit, hne⟩ := st
    obtain ⟨xs, x, hq, hx⟩ := hg
    obtain ⟨its, rv, p, hz⟩ := I.tuple hq
    obtain ⟨u, hu, ru⟩ := rv.get hx
    have hel : e < s.heap.objs.size := Heap.lt_size he
    have hil : it < s.heap.objs.size := by obtain ⟨_, q, _⟩ := hit; exact Heap.lt_size q
    have hai : a ≠ it := fun z => by
      obtain ⟨o, q1, q2, _⟩ := hit
      obtain ⟨o', p1, p2, _⟩ := p
      rw [z, q1] at p1; cases p1; rw [q2] at p2; exact absurd p2 (by decide)
    have hae : a ≠ e := fun z => by
      obtain ⟨o', p1, p2, _⟩ := p
      rw [z] at p1
      have he' : s.heap.get? e = some _ := he
      rw [he'] at p1; cases p1; exact absurd (show Value.type "enumerate" = Value.type "tuple" from p2) (by decide)
    have D := Draws.tuple (prog := X.prog) (w := X.w) (A := X.A.in1) (by simpa using I.ok.hd hc) it a hai its.toArray
    have hlt : i < its.toArray.size := by
      have := (List.getElem?_eq_some_iff.mp hu).1
      simpa using this
    refine wpAny_pyNext_enum_itemD D he ⟨hit, p⟩ hlt hne (by simp; exact ⟨hne, fun z => hae z.symm⟩) fun x1 h' tk hP ho hit' hT hsz hk => ?_
    have hx1 : x1 = u := by
      have h1 : its.toArray[i]? = some u := by simpa using hu
      exact Option.some.inj (hP.symm.trans h1)
    subst hx1
    refine ⟨_, rfl, wpAny_letOwnedTupleGo_enum (s := { s with heap := h', toks := tk + 1 }) ho fun h'' he' sb => ?_⟩
    have hT2 : h''.get? s.heap.objs.size = some { cls := .type "tuple", data := .seq #[.int i tk, x1] } := (sb.2 _ (Nat.ne_of_gt hel)).trans hT
    have new : ObjOk X.prog X.w (upd H s.heap.objs.size (.tup [.int (i : Nat), x])) h'' s.heap.objs.size (.tup [.int (i : Nat), x]) :=
      ⟨by show 2 ≤ sizeLine; decide, [.int i tk, x1], .cons ⟨_, rfl⟩ (.cons ru .nil), ⟨_, hT2, rfl, _, rfl⟩⟩
    have I1 : Inv X pins σ (upd H s.heap.objs.size (.tup [.int (i : Nat), x])) { s with heap := h'', toks := tk + 1 } :=
      I.turnedNew (ch := [e, it]) (fun b ob hb q => (sb.2 b (fun z => hb (by simp [z]))).trans (hk b ob (fun z => hb (by simp [z])) (fun z => hb (by simp [z])) q)) hf (Nat.le_refl _) new
    refine ⟨.ref s.heap.objs.size, _, I1, rfl, ⟨_, x, rfl, I.hok.fresh (Nat.le_refl _), rfl, fun ys hy => by rw [I.tuple_inj hy hq]; exact hx⟩, ⟨⟨x1, ?_⟩, hit'.1.at fun o q => (sb.2 it (Ne.symm hne)).trans q, hne⟩, fun b hb => ?_⟩
    · have e1 : ((i + 1 : Nat) : Int) = (i : Int) + 1 := by omega
      rw [e1]; exact he'
    · have hb' : b < s.heap.objs.size := by
        have e' : b = e ∨ b = it := by simpa using hb
        rcases e' with z | z
        · rw [z]; exact hel
        · rw [z]; exact hil
      rw [upd_ne (Nat.ne_of_lt hb')]
      exact (hf b hb).1
  done := by
    intro X hP hw hK hc i pins s σ H E I hf st hg
    subst hP hw hK
    obtain ⟨⟨old, he⟩, hit, hne⟩ := st
    obtain ⟨xs, hq, hx⟩ := hg
    obtain ⟨its, rv, p, hz⟩ := I.tuple hq
    obtain ⟨f0, f1, f2, f3, f4, f5⟩ := hf it (by simp)
    have hl := rv.length
    have hai : a ≠ it := fun z => by
      obtain ⟨o, q1, q2, _⟩ := hit
      obtain ⟨o', p1, p2, _⟩ := p
      rw [z, q1] at p1; cases p1; rw [q2] at p2; exact absurd p2 (by decide)
    have D := Draws.tuple (prog := X.prog) (w := X.w) (A := X.A.in1) (by simpa using I.ok.hd hc) it a hai its.toArray
    have hn : i = its.toArray.size := by simp; omega
    subst hn
    exact wpAny_pyNext_enum_endD D he ⟨hit, p⟩ fun h' eb => ⟨rfl, I.turned (t' := s.toks) (fun b o hb q => eb b o hb q) f0 f1 f3 f4 f5⟩
  self := fun A i s Q E st h => let ⟨⟨_, he⟩, _⟩ := st; wpAny_pyIter_enum he h
def iEnumT (K : PySem.W.Frag) (ta : TA) : TI := fun σ H R => ta σ H fun vs H1 => ∃ a xs, vs = [.ref a] ∧ SqT K H1 a xs ∧ R (IteT K a) H1
theorem pi_enumT {X : Cx} {e : Expr} {ta : TA} {p pos tpos : Pos} {elts : List Expr} {kk : Nat} (hg : Gl X "enumerate") (hm : X.mg "enumerate" = none) (ha : PA X [e] ta) (hs : starEach [e] X.env = [(false, eval e X.env)] := by rfl) :
    PI X (.Tuple elts kk tpos) (.Call (.Name "enumerate" p) [e] [] pos) (iEnumT X.K ta) := by
  refine ⟨fun pins s σ H R I h => ?_⟩
  refine Call_ (ld_blt I hg hm boot_enumerate (PyProof.Rows.callWith_type1 (thn (ha.run pos pins s σ H _ I h) fun us s1 ⟨vs, H1, I1, r1, q1⟩ => ?_) hs rfl))
  obtain ⟨a, xs, ex, hq, q⟩ := q1
  subst ex
  cases r1 with
  | cons r rr =>
    cases rr
    cases r
    obtain ⟨its, rv, p', hz⟩ := I1.tuple hq
    refine enum_begins1 (begins_tuple a its.toArray) p' fun h' he hit hsz hk => wpAny_pyIter_enum he ?_
    have I2 : Inv X pins σ H1 { s1 with heap := h' } := I1.kept (t' := s1.toks) hk
    refine ⟨s1.heap.objs.size + 1, [s1.heap.objs.size + 1, s1.heap.objs.size], _, _, H1, rfl, I2, turn_enumT a (s1.heap.objs.size + 1) s1.heap.objs.size, ⟨⟨.none, he⟩, ⟨_, hit, rfl, rfl⟩, Nat.succ_ne_self _⟩, fun b hb => ?_, q⟩
    have e' : b = s1.heap.objs.size + 1 ∨ b = s1.heap.objs.size := by simpa using hb
    have hle : s1.heap.objs.size ≤ b := by
      rcases e' with z | z
      · rw [z]; exact Nat.le_add_right _ _
      · rw [z]; exact Nat.le_refl _
    exact I1.fpOk hle (I1.hok.fresh hle)
theorem walk_enumT {K : PySem.W.Frag} {a : Addr} {xs : List V} : Walk (IteT K a) xs.length (fun H => SqT K H a xs) (YPair (fun i => some (.int (i : Nat))) (fun i => xs[i]?)) := by
  refine ⟨fun i _ hi q => ⟨xs, xs[i], q, by simp [hi]⟩, fun _ q => ⟨xs, q, rfl⟩, fun i H v H' _ q y => ?_⟩
  obtain ⟨T, x, h1, h2, h3, h4⟩ := y
  exact ⟨T, .int (i : Nat), x, h1, h2, h3, rfl, h4 xs q⟩
end DL

namespace DL
open PySem PySem.Spec PyProof.Rows L2
/-! ### what is walked -/
section
variable {c : Cor Ω} {S : Sto} {H : Hp}
theorem frame_kp (hr : Rel c S H) {H' : Hp} (g : ∀ a o, H a = some o → ¬ live c S a → H' a = some o) {A : Addr → Prop} (hA : ∀ a o, H a = some o → A a → c.A a) : Kp c.A H A H' :=
  ⟨fun a vs h => g a _ h fun z => hr.nt a vs h (hr.live z), fun a o h n => g a o h fun z => n (hr.live z), hA⟩
theorem wd_at (hr : Rel c S H) {ds : List D} {vs : List V} (r : RepL c.A H ds vs) (hl : vs.length ≤ sizeLine) {J : It} {G : Hp → Prop} (w : Walk J vs.length G (YAt vs)) (hG : ∀ H', (∀ a o, H a = some o → ¬ live c S a → H' a = some o) → G H') : WD c S H ds J := by
  refine ⟨?_, by rw [r.length]; exact hl⟩
  rw [r.length]
  refine w.mono hG fun i H1 x H2 hi hg y => ?_
  obtain ⟨rfl, hx⟩ := y
  obtain ⟨d, h1, h2⟩ := r.getV hx
  exact ⟨d, h1, .inl rfl, fun A hA => Rep.keep (frame_kp hr hg hA) _ _ h2⟩
theorem wd_pair (hr : Rel c S H) {ds : List D} (hl : ds.length ≤ sizeLine) {xs ys : Nat → Option V} {J : It} {G : Hp → Prop} (w : Walk J ds.length G (YPair xs ys)) (hG : ∀ H', (∀ a o, H a = some o → ¬ live c S a → H' a = some o) → G H')
    (hy : ∀ i x y, i < ds.length → xs i = some x → ys i = some y → ∃ d e, ds[i]? = some (.tuple [d, e]) ∧ Rep c.A H d x ∧ Rep c.A H e y) : WD c S H ds J := by
  refine ⟨w.mono hG fun i H1 v H2 hi hg y => ?_, hl⟩
  obtain ⟨T, x, y, rfl, hT, rfl, hx, hy'⟩ := y
  obtain ⟨d, e, h1, h2, h3⟩ := hy i x y hi hx hy'
  refine ⟨_, h1, .inr ⟨T, _, hT, rfl⟩, fun A hA => ?_⟩
  have k : Kp c.A H A (upd H1 T (.tup [x, y])) := by
    have k0 := frame_kp hr hg hA
    refine ⟨fun a vs h => ?_, fun a o h n => ?_, hA⟩
    · have := k0.tup a vs h; rw [upd_ne (ne_of_none this hT)]; exact this
    · have := k0.fr a o h n; rw [upd_ne (ne_of_none this hT)]; exact this
  exact .tup upd_same (by rw [sizeLine_eq]; show 2 ≤ 16777216; decide) (.cons (Rep.keep k _ _ h2) (.cons (Rep.keep k _ _ h3) .nil))
end
def itSeq (fe : Ex) : Iy := fun ρ S => (fe ρ S).bind fun v S1 => match v with
  | .d (.list ds) => .ok ds S1
  | .d (.tuple ds) => .ok ds S1
  | .scr ds => .ok ds S1
  | _ => .bad
def rangeD (lo : Int) (n : Nat) : List D := (List.range n).map fun i => .int (lo + (i : Nat))
def rgI (i j : Int) : Option (List D) := if -4611686018427387904 ≤ i ∧ i < 4611686018427387904 ∧ -4611686018427387904 ≤ j ∧ j < 4611686018427387904 ∧ j - i ≤ 1000000 then some (rangeD i (j - i).toNat) else none
def ofL (o : Option (List D)) (S : Sto) : R (List D) := match o with
  | some l => .ok l S
  | none => .bad
def itR1 (f : La) : Iy := fun ρ S => (f ρ S).bind fun vs S1 => match vs with
  | [.d (.int j)] => ofL (rgI 0 j) S1
  | _ => .bad
def itR2 (f : La) : Iy := fun ρ S => (f ρ S).bind fun vs S1 => match vs with
  | [.d (.int i), .d (.int j)] => ofL (rgI i j) S1
  | _ => .bad
/-- range(i, j, -1) -/
def rdownD (hi : Int) (n : Nat) : List D := (List.range n).map fun i => .int (hi + (i : Nat) * (-1))
def itR3 (f : La) : Iy := fun ρ S => (f ρ S).bind fun vs S1 => match vs with
  | [.d (.int i), .d (.int j), .d (.int (-1))] => if -4611686018427387904 ≤ i ∧ i < 4611686018427387904 ∧ -4611686018427387904 ≤ j ∧ j < 4611686018427387904 ∧ i - j ≤ 1000000 then .ok (rdownD i (i - j).toNat) S1 else .bad
  | _ => .bad
def enumD : Nat → List D → List D
  | _, [] => []
  | k, d :: r => .tuple [.int (k : Nat), d] :: enumD (k + 1) r
def itEnum (f : La) : Iy := fun ρ S => (f ρ S).bind fun vs S1 => match vs with
  | [.d (.list ds)] => .ok (enumD 0 ds) S1
  | [.d (.tuple ds)] => .ok (enumD 0 ds) S1
  | _ => .bad
def zipD : List D → List D → List D := List.zipWith fun d e => .tuple [d, e]
def itZip (f : La) : Iy := fun ρ S => (f ρ S).bind fun vs S1 => match vs with
  | [.d (.list ds), .d (.list es)] => .ok (zipD ds es) S1
  | [.d (.tuple ds), .d (.tuple es)] => .ok (zipD ds es) S1
  | _ => .bad
theorem enumD_length : ∀ (k : Nat) (ds : List D), (enumD k ds).length = ds.length
  | _, [] => rfl
  | k, d :: r => by rw [enumD, List.length_cons, List.length_cons, enumD_length]
theorem enumD_get : ∀ (k : Nat) (ds : List D) {i : Nat} {d : D}, ds[i]? = some d → (enumD k ds)[i]? = some (.tuple [.int ((k + i : Nat) : Int), d])
  | _, [], i, d, e => by simp at e
  | k, d :: r, 0, d', e => by simp at e; subst e; rfl
  | k, d :: r, i + 1, d', e => by
    rw [enumD, List.getElem?_cons_succ, enumD_get (k + 1) r (by simpa using e), show k + 1 + i = k + (i + 1) by omega]
section
variable {X : Cx} {W : WX} {tg : Expr}
theorem si_seq {e : Expr} {fe : Ex} (h : SE X W e fe) : SI X W tg e (itSeq fe) := PI.imp (PI.or (pi_list h) (pi_tup h)) fun σ H R' ⟨c, ρ, S, hr, he, q⟩ => by
  unfold itSeq at q
  have q := Aft.bind hr q
  cases e1 : fe ρ S with
  | exc x S' => exact .inl ⟨c, ρ, S, hr, he, by rw [e1] at q ⊢; exact q⟩
  | bad => rw [e1] at q; exact q.elim
  | ok v S1 =>
    rw [e1] at q
    cases v with
    | loc n => exact .inl ⟨c, ρ, S, hr, he, by rw [e1]; exact fun c1 H1 x1 => (q c1 H1 x1).elim⟩
    | er n => exact .inl ⟨c, ρ, S, hr, he, by rw [e1]; exact fun c1 H1 x1 => (q c1 H1 x1).elim⟩
    | scr ds =>
      refine .inl ⟨c, ρ, S, hr, he, ?_⟩
      rw [e1]
      rintro c1 H1 x1 u ⟨a, vs, rfl, h2, h4, h5⟩
      have hS : ∀ H', (∀ a o, H1 a = some o → ¬ live c1 S1 a → H' a = some o) → SqL X.K H' a vs := fun H' g => by
        rcases h2 with ⟨n, h3 | ⟨o, h3⟩⟩ | h2
        · exact .inl (.inl (g a _ h3 fun z => n (x1.rel.live z)))
        · exact .inl (.inr ⟨o, g a _ h3 fun z => n (x1.rel.live z)⟩)
        · exact h2 H'
      exact ⟨a, rfl, ⟨vs, hS H1 fun _ _ z _ => z⟩, q c1 H1 x1 c1 H1 (Nx.refl x1.rel) _ (wd_at x1.rel h5 h4 walk_list hS)⟩
    | d x =>
      cases x with
      | list ds =>
        refine .inl ⟨c, ρ, S, hr, he, ?_⟩
        rw [e1]
        intro c1 H1 x1 u hu
        cases hu with
        | lst n h1 h2 h3 =>
          exact ⟨_, rfl, ⟨_, SqL.of h1⟩, q c1 H1 x1 c1 H1 (Nx.refl x1.rel) _ (wd_at x1.rel h3 h2 walk_list fun H' g => SqL.of (g _ _ h1 fun z => n (x1.rel.live z)))⟩
      | tuple ds =>
        refine .inr ⟨c, ρ, S, hr, he, ?_⟩
        rw [e1]
        intro c1 H1 x1 u hu
        cases hu with
        | tup h1 h2 h3 =>
          exact ⟨_, rfl, ⟨_, SqT.of h1⟩, q c1 H1 x1 c1 H1 (Nx.refl x1.rel) _ (wd_at x1.rel h3 h2 walk_tup fun H' g => SqT.of (g _ _ h1 fun z => x1.rel.nt _ _ h1 (x1.rel.live z)))⟩
      | none => exact .inl ⟨c, ρ, S, hr, he, by rw [e1]; exact fun c1 H1 x1 => (q c1 H1 x1).elim⟩
      | bool b => exact .inl ⟨c, ρ, S, hr, he, by rw [e1]; exact fun c1 H1 x1 => (q c1 H1 x1).elim⟩
      | int b => exact .inl ⟨c, ρ, S, hr, he, by rw [e1]; exact fun c1 H1 x1 => (q c1 H1 x1).elim⟩
      | str b => exact .inl ⟨c, ρ, S, hr, he, by rw [e1]; exact fun c1 H1 x1 => (q c1 H1 x1).elim⟩
      | dict b => exact .inl ⟨c, ρ, S, hr, he, by rw [e1]; exact fun c1 H1 x1 => (q c1 H1 x1).elim⟩
theorem rangeD_get {lo : Int} {n i : Nat} (h : i < n) : (rangeD lo n)[i]? = some (.int (lo + (i : Nat))) := by simp [rangeD, h]
theorem rangeD_length (lo : Int) (n : Nat) : (rangeD lo n).length = n := by simp [rangeD]
theorem wd_range {c : Cor Ω} {S : Sto} {H : Hp} {lo : Int} {n : Nat} (hl : n ≤ sizeLine) : WD c S H (rangeD lo n) (Itr lo n) := by
  refine ⟨?_, by rw [rangeD_length]; exact hl⟩
  rw [rangeD_length]
  refine (walk_range (lo := lo) (n := n)).mono (fun _ _ => trivial) fun i H1 x H2 hi _ y => ?_
  obtain ⟨rfl, rfl⟩ := y
  exact ⟨_, rangeD_get hi, .inl rfl, fun A _ => .int _⟩
theorem rgI_some {i j : Int} {l : List D} (h : rgI i j = some l) : (-(2 ^ 62) ≤ i ∧ i < 2 ^ 62 ∧ -(2 ^ 62) ≤ j ∧ j < 2 ^ 62) ∧ (j - i).toNat ≤ sizeLine ∧ l = rangeD i (j - i).toNat := by
  unfold rgI at h
  split at h
  · rename_i hc
    refine ⟨by omega, by rw [sizeLine_eq]; omega, (Option.some.inj h).symm⟩
  · cases h
theorem si_range1 {a : Expr} {f : La} {p pos : Pos} (hg : Gl X "range") (hm : X.mg "range" = none) (ha : SA X W [a] f) (hs : starEach [a] X.env = [(false, eval a X.env)] := by rfl) : SI X W tg (.Call (.Name "range" p) [a] [] pos) (itR1 f) :=
  PI.imp (pi_range1 hg hm ha hs) fun σ H R' ⟨c, ρ, S, hr, he, q⟩ => by
    refine ⟨c, ρ, S, hr, he, (Aft.bind hr q).mono fun vs c1 S1 H1 x1 h1 us hus => ?_⟩
    split at h1
    · rename_i j
      cases hus with
      | cons h t =>
        cases t; cases h
        cases e : rgI 0 j with
        | none => rw [e] at h1; exact h1.elim
        | some l =>
          rw [e] at h1
          obtain ⟨hb, hl, rfl⟩ := rgI_some e
          rw [Int.sub_zero] at hl h1
          exact ⟨j, rfl, hb.2.2.1, hb.2.2.2, h1 c1 H1 (Nx.refl x1.rel) _ (wd_range hl)⟩
    · exact h1.elim
theorem si_range2 {a b : Expr} {f : La} {p pos : Pos} (hg : Gl X "range") (hm : X.mg "range" = none) (ha : SA X W [a, b] f) (hs : starEach [a, b] X.env = [(false, eval a X.env), (false, eval b X.env)] := by rfl) (hs2 : starEach [b] X.env = [(false, eval b X.env)] := by rfl) :
    SI X W tg (.Call (.Name "range" p) [a, b] [] pos) (itR2 f) :=
  PI.imp (pi_range2 hg hm ha hs hs2) fun σ H R' ⟨c, ρ, S, hr, he, q⟩ => by
    refine ⟨c, ρ, S, hr, he, (Aft.bind hr q).mono fun vs c1 S1 H1 x1 h1 us hus => ?_⟩
    split at h1
    · rename_i i j
      cases hus with
      | cons h t =>
        cases t with
        | cons h' t =>
          cases t; cases h; cases h'
          cases e : rgI i j with
          | none => rw [e] at h1; exact h1.elim
          | some l =>
            rw [e] at h1
            obtain ⟨hb, hl, rfl⟩ := rgI_some e
            exact ⟨i, j, rfl, hb, h1 c1 H1 (Nx.refl x1.rel) _ (wd_range hl)⟩
    · exact h1.elim
theorem si_enum {e : Expr} {f : La} {p pos tpos : Pos} {elts : List Expr} {kk : Nat} (hg : Gl X "enumerate") (hm : X.mg "enumerate" = none) (ha : SA X W [e] f) (hs : starEach [e] X.env = [(false, eval e X.env)] := by rfl) :
    SI X W (.Tuple elts kk tpos) (.Call (.Name "enumerate" p) [e] [] pos) (itEnum f) := PI.imp (PI.or (pi_enum hg hm ha hs) (pi_enumT hg hm ha hs)) fun σ H R' ⟨c, ρ, S, hr, he, q⟩ => by
  unfold itEnum at q
  have q := Aft.bind hr q
  cases e1 : f ρ S with
  | exc x S' => exact .inl ⟨c, ρ, S, hr, he, by rw [e1] at q ⊢; exact q⟩
  | bad => rw [e1] at q; exact q.elim
  | ok vs S1 =>
    rw [e1] at q
    have q : ∀ c' H', Nx c S H c' S1 H' → Aft X.mg W c' S1 σ H' _ _ := q
    have none : (∀ c' H', Nx c S H c' S1 H' → False) → (iEnum X.K (tA X.K X.mg W f) σ H R' ∨ iEnumT X.K (tA X.K X.mg W f) σ H R') := fun z => .inl ⟨c, ρ, S, hr, he, by rw [e1]; exact fun c1 H1 x1 => (z c1 H1 x1).elim⟩
    match vs, q with
    | [.d (.list ds)], q =>
      refine .inl ⟨c, ρ, S, hr, he, ?_⟩
      rw [e1]
      intro c1 H1 x1 us hus
      cases hus with
      | cons hu t =>
        cases t
        cases hu with
        | lst n h1 h2 h3 =>
          refine ⟨_, _, rfl, SqL.of h1, q c1 H1 x1 c1 H1 (Nx.refl x1.rel) _ (wd_pair x1.rel (by rw [enumD_length, h3.length]; exact h2) (by rw [enumD_length, h3.length]; exact walk_enum) (fun H' g => SqL.of (g _ _ h1 fun z => n (x1.rel.live z))) fun i x y hi hx hy => ?_)⟩
          cases hx
          obtain ⟨d, h4, h5⟩ := h3.getV hy
          exact ⟨_, d, by rw [enumD_get 0 ds h4, Nat.zero_add], .int _, h5⟩
    | [.d (.tuple ds)], q =>
      refine .inr ⟨c, ρ, S, hr, he, ?_⟩
      rw [e1]
      intro c1 H1 x1 us hus
      cases hus with
      | cons hu t =>
        cases t
        cases hu with
        | tup h1 h2 h3 =>
          refine ⟨_, _, rfl, SqT.of h1, q c1 H1 x1 c1 H1 (Nx.refl x1.rel) _ (wd_pair x1.rel (by rw [enumD_length, h3.length]; exact h2) (by rw [enumD_length, h3.length]; exact walk_enumT) (fun H' g => SqT.of (g _ _ h1 fun z => x1.rel.nt _ _ h1 (x1.rel.live z))) fun i x y hi hx hy => ?_)⟩
          cases hx
          obtain ⟨d, h4, h5⟩ := h3.getV hy
          exact ⟨_, d, by rw [enumD_get 0 ds h4, Nat.zero_add], .int _, h5⟩
    | [], q => exact none fun c1 H1 x1 => q c1 H1 x1
    | .loc _ :: _, q => exact none fun c1 H1 x1 => q c1 H1 x1
    | .scr _ :: _, q => exact none fun c1 H1 x1 => q c1 H1 x1
    | .er _ :: _, q => exact none fun c1 H1 x1 => q c1 H1 x1
    | .d .none :: _, q => exact none fun c1 H1 x1 => q c1 H1 x1
    | .d (.bool _) :: _, q => exact none fun c1 H1 x1 => q c1 H1 x1
    | .d (.int _) :: _, q => exact none fun c1 H1 x1 => q c1 H1 x1
    | .d (.str _) :: _, q => exact none fun c1 H1 x1 => q c1 H1 x1
    | .d (.dict _) :: _, q => exact none fun c1 H1 x1 => q c1 H1 x1
    | .d (.list _) :: _ :: _, q => exact none fun c1 H1 x1 => q c1 H1 x1
    | .d (.tuple _) :: _ :: _, q => exact none fun c1 H1 x1 => q c1 H1 x1
end
/-! ### what a slot holds is no longer changed -/
theorem Nx.freeze {c : Cor Ω} {S : Sto} {H : Hp} (r : Rel c S H) {n : Nat} {a : Addr} {o : O} (ha : c.m[n]? = some a) (hs : S[n]? = some (some o)) : Nx c S H ⟨c.m, fun b => c.A b ∧ b ≠ a⟩ (S.set n none) H := by
  have hl : n < S.length := (List.getElem?_eq_some_iff.mp hs).1
  have k : Kp c.A H (fun b => c.A b ∧ b ≠ a) H := ⟨fun _ _ h => h, fun _ _ h _ => h, fun _ _ _ z => z.1⟩
  have st : ∀ m q, (S.set n none)[m]? = some (some q) → m ≠ n ∧ S[m]? = some (some q) := fun m q h => by
    by_cases e : n = m
    · subst e; rw [List.getElem?_set_self hl] at h; cases h
    · rw [List.getElem?_set_ne e] at h; exact ⟨fun z => e z.symm, h⟩
  have ne : ∀ m b q, c.m[m]? = some b → m ≠ n → S[m]? = some (some q) → b ≠ a := fun m b q h1 h2 h3 z => by
    subst z; exact h2 (r.inj m n b q o h1 ha h3 hs)
  refine ⟨List.prefix_refl _, fun _ h => .inl h.1, fun b h l => ⟨h, fun z => l (by subst z; exact ⟨n, o, ha, hs⟩)⟩, ⟨by simpa using r.len, ?_, ?_, fun b h => r.tr b h.1, fun b vs h z => r.nt b vs h z.1⟩, fun _ _ h _ => h, ?_⟩
  · intro m m' b q q' h1 h2 h3 h4
    exact r.inj m m' b q q' h1 h2 (st m q h3).2 (st m' q' h4).2
  · intro m b q h1 h3
    obtain ⟨g1, g2⟩ := st m q h3
    obtain ⟨z1, z2⟩ := r.ob m b q h1 g2
    refine ⟨⟨z1, ne m b q h1 g1 g2⟩, ?_⟩
    cases q with
    | lst ds => obtain ⟨vs, q1, q2, q3⟩ := z2; exact ⟨vs, q1, q2, RepL.keep k _ _ q3⟩
    | dic ds => obtain ⟨vs, q1, q2, q3⟩ := z2; exact ⟨vs, q1, q2, RepK.keep k _ _ q3⟩
  · rintro b ⟨m, q, h1, h3⟩
    exact .inl ⟨m, q, h1, (st m q h3).2⟩
def objD : O → D
  | .lst ds => .list ds
  | .dic kds => .dict (kds.map fun p => (keyD p.1, p.2))
theorem freeze_rep {c : Cor Ω} {S : Sto} {H : Hp} (r : Rel c S H) {n : Nat} {a : Addr} {o : O} (ha : c.m[n]? = some a) (hs : S[n]? = some (some o)) : Rep (fun b => c.A b ∧ b ≠ a) H (objD o) (.ref a) := by
  have k : Kp c.A H (fun b => c.A b ∧ b ≠ a) H := ⟨fun _ _ h => h, fun _ _ h _ => h, fun _ _ _ z => z.1⟩
  obtain ⟨_, h⟩ := r.ob n a o ha hs
  cases o with
  | lst ds => obtain ⟨vs, q1, q2, q3⟩ := h; exact .lst (fun z => z.2 rfl) q1 q2 (RepL.keep k _ _ q3)
  | dic ds => obtain ⟨vs, q1, q2, q3⟩ := h; exact .dic (fun z => z.2 rfl) (.inl q1) q2 (RepK.keep k _ _ q3)
def frzV (v : Val) (S : Sto) : R Val := match v with
  | .loc n => match S[n]? with
    | some (some o) => .ok (.d (objD o)) (S.set n none)
    | _ => .bad
  | v => .ok v S
/-- an expression's value, no longer changed -/
def eFrz (f : Ex) : Ex := fun ρ S => (f ρ S).bind frzV
theorem se_frz {X : Cx} {W : WX} {e : Expr} {f : Ex} (h : SE X W e f) : SE X W e (eFrz f) := PE.imp h fun σ H Q ⟨c, ρ, S, hr, he, q⟩ => by
  refine ⟨c, ρ, S, hr, he, (Aft.bind hr q).mono fun v c1 S1 H1 x1 h1 u hu => ?_⟩
  unfold frzV at h1
  split at h1
  · rename_i n
    split at h1
    · rename_i o ho
      obtain ⟨a, g1, rfl⟩ := hu
      exact h1 _ H1 (Nx.freeze x1.rel g1 ho) _ (freeze_rep x1.rel g1 ho)
    · exact h1.elim
  · exact h1 c1 H1 (Nx.refl x1.rel) _ hu
def sFrz (i : Nat) (g : Blk) : Blk := fun ρ S => match ρ[i]? with
  | some (some (.loc n)) => match S[n]? with
    | some (some o) => g (ρ.set i (some (.d (objD o)))) (S.set n none)
    | _ => .bad
  | _ => .bad
theorem ss_frz {X : Cx} {W : WX} {sts : List Stmt} {g : Blk} (i : Nat) (h : SSs X W sts g) : SSs X W sts (sFrz i g) := PSs.imp h fun D σ H ⟨c, ρ, S, hr, he, q⟩ => by
  unfold sFrz at q
  split at q
  · rename_i n e1
    split at q
    · rename_i o ho
      obtain ⟨u, g1, a, g2, rfl⟩ := he.at' i _ e1
      have x := Nx.freeze hr g2 ho
      refine ⟨_, _, _, x.rel, ?_, AftS.later hr x q⟩
      have he1 := he.keep hr x
      have hl : i < ρ.length := (List.getElem?_eq_some_iff.mp e1).1
      refine ⟨by simpa using he1.len, fun j v hj => ?_⟩
      by_cases z : i = j
      · subst z
        rw [List.getElem?_set_self hl] at hj
        cases hj
        exact ⟨_, g1, freeze_rep hr g2 ho⟩
      · rw [List.getElem?_set_ne z] at hj
        exact he1.at' j v hj
    · exact q.elim
  · exact q.elim
/-! ### the store is cut back -/
def cutV1 (n : Nat) : Val → Option Val
  | .loc k => if k < n then some (.loc k) else none
  | v => some v
def cutE (n : Nat) (ρ : Ev) : Ev := ρ.map fun o => o.bind (cutV1 n)
def sScope (g : Blk) : Blk := fun ρ S => match g ρ S with
  | .ok (.nx ρ') S' => .ok (.nx (cutE S.length ρ')) (S'.take S.length)
  | .ok (.bk ρ') S' => .ok (.bk (cutE S.length ρ')) (S'.take S.length)
  | .ok (.ct ρ') S' => .ok (.ct (cutE S.length ρ')) (S'.take S.length)
  | .ok (.rt v) S' => match cutV1 S.length v with
    | some v => .ok (.rt v) (S'.take S.length)
    | none => .bad
  | .ok (.ex x ρ') S' => .ok (.ex x (cutE S.length ρ')) (S'.take S.length)
  | r => r
section
variable {c c1 : Cor Ω} {S S1 : Sto} {H H1 : Hp}
theorem take_get {α : Type} {l : List α} {n i : Nat} {a : α} (h : (l.take n)[i]? = some a) : l[i]? = some a ∧ i < n := by
  rw [List.getElem?_take] at h
  split at h
  · exact ⟨h, by assumption⟩
  · cases h
theorem Nx.cut (r : Rel c S H) (x : Nx c S H c1 S1 H1) : Nx c S H ⟨c1.m.take S.length, c1.A⟩ (S1.take S.length) H1 := by
  have lv : ∀ a, live (⟨c1.m.take S.length, c1.A⟩ : Cor Ω) (S1.take S.length) a → live c1 S1 a := fun a ⟨n, o, h1, h2⟩ => ⟨n, o, (take_get h1).1, (take_get h2).1⟩
  refine ⟨?_, x.grow, x.lock, ⟨?_, ?_, ?_, x.rel.tr, x.rel.nt⟩, x.fr, fun a h => x.lv a (lv a h)⟩
  · show c.m <+: c1.m.take S.length
    obtain ⟨t, e⟩ := x.pre
    rw [← e, ← r.len, List.take_left]
    exact List.prefix_refl _
  · show (c1.m.take S.length).length = (S1.take S.length).length
    rw [List.length_take, List.length_take, x.rel.len]
  · intro n n' a o o' h1 h2 h3 h4
    exact x.rel.inj n n' a o o' (take_get h1).1 (take_get h2).1 (take_get h3).1 (take_get h4).1
  · intro n a o h1 h3
    obtain ⟨z1, z2⟩ := x.rel.ob n a o (take_get h1).1 (take_get h3).1
    exact ⟨z1, by cases o <;> exact z2⟩
theorem cutV1_rep {n : Nat} {v w : Val} {u : V} (h : VRep c1 H1 v u) (e : cutV1 n v = some w) : VRep (⟨c1.m.take n, c1.A⟩ : Cor Ω) H1 w u := by
  unfold cutV1 at e
  split at e
  · split at e
    · rename_i k hk
      cases e
      obtain ⟨a, h1, h2⟩ := h
      exact ⟨a, by show (c1.m.take n)[k]? = some a; rw [List.getElem?_take, if_pos hk]; exact h1, h2⟩
    · cases e
  · cases e
    cases v with
    | d x => exact h
    | loc n => rename_i hn; exact absurd rfl (hn n)
    | scr ds => exact h
    | er x => exact h
theorem cutE_rep {n : Nat} {ρ : Ev} {σ : L2.St} (h : RepE c1 H1 ρ σ) : RepE (⟨c1.m.take n, c1.A⟩ : Cor Ω) H1 (cutE n ρ) σ := by
  refine ⟨by unfold cutE; rw [List.length_map]; exact h.len, fun i v e => ?_⟩
  unfold cutE at e
  rw [List.getElem?_map] at e
  obtain ⟨o, h1, h2⟩ := Option.map_eq_some_iff.mp e
  obtain ⟨w, h3, h4⟩ := Option.bind_eq_some_iff.mp h2
  subst h3
  obtain ⟨u, h5, h6⟩ := h.at' i w h1
  exact ⟨u, h5, cutV1_rep h6 h4⟩
end
theorem ss_scope {X : Cx} {W : WX} {sts : List Stmt} {g : Blk} (h : SSs X W sts g) : SSs X W sts (sScope g) := PSs.imp h fun D σ H ⟨c, ρ, S, hr, he, q⟩ => by
  refine ⟨c, ρ, S, hr, he, ?_⟩
  unfold sScope at q
  revert q
  cases g ρ S with
  | ok fl S' =>
    cases fl with
    | nx ρ' => exact fun q c' σ' H' x e => q _ σ' H' (Nx.cut hr x) (cutE_rep e)
    | bk ρ' => exact fun q c' σ' H' x e => q _ σ' H' (Nx.cut hr x) (cutE_rep e)
    | ct ρ' => exact fun q c' σ' H' x e => q _ σ' H' (Nx.cut hr x) (cutE_rep e)
    | ex z ρ' => exact fun q c' σ' H' cls d x e => q _ σ' H' cls d (Nx.cut hr x) (cutE_rep e)
    | rt v =>
      intro q c' H' u x hu
      cases e : cutV1 S.length v with
      | none => simp only [e] at q; exact q.elim
      | some w => simp only [e] at q; exact q _ H' u (Nx.cut hr x) (cutV1_rep hu e)
  | exc z S' => exact fun q => q
  | bad => exact fun q => q
end DL

namespace DL
open PySem PySem.Spec PyProof.Rows L2
/-! ### comprehensions -/
def wipeE (ρ : Ev) : List Nat → Ev
  | [] => ρ
  | v :: vs => (wipeE ρ vs).set v none
theorem wipe_rep {c : Cor Ω} {H : Hp} {ρ : Ev} {σ : L2.St} (h : RepE c H ρ σ) : ∀ vs : List Nat, RepE c H (wipeE ρ vs) (wipe σ vs)
  | [] => h
  | v :: vs => by
    have ih := wipe_rep h vs
    refine ⟨by show ((wipeE ρ vs).set v none).length = ((wipe σ vs).set v none).length; rw [List.length_set, List.length_set]; exact ih.len, fun i w e => ?_⟩
    have e : ((wipeE ρ vs).set v none)[i]? = some (some w) := e
    show ∃ u, ((wipe σ vs).set v none)[i]? = some (some u) ∧ VRep c H w u
    by_cases q : v = i
    · subst q
      by_cases hl : v < (wipeE ρ vs).length
      · rw [List.getElem?_set_self hl] at e; cases e
      · rw [List.getElem?_eq_none (by rw [List.length_set]; omega)] at e; cases e
    · rw [List.getElem?_set_ne q] at e
      obtain ⟨u, h1, h2⟩ := ih.at' i w e
      exact ⟨u, by rw [List.getElem?_set_ne q]; exact h1, h2⟩
theorem wipe_get (σ : L2.St) : ∀ (vs : List Nat) (i : Nat), (wipe σ vs)[i]? = if i ∈ vs then (σ[i]?).map (fun _ => none) else σ[i]?
  | [], i => by simp [wipe]
  | v :: vs, i => by
    show ((wipe σ vs).set v none)[i]? = _
    rw [List.getElem?_set, wipe_get σ vs i, wipe_length]
    by_cases q : v = i
    · subst q
      by_cases hl : v < σ.length
      · simp [hl]
      · simp [hl]
    · have q' : ¬ i = v := fun z => q z.symm
      simp [q, q']
theorem wipe_ext {σ σ' : L2.St} {vs : List Nat} (hl : σ'.length = σ.length) (h : ∀ i, i ∉ vs → σ'[i]? = σ[i]?) : wipe σ' vs = wipe σ vs := by
  apply List.ext_getElem?
  intro i
  rw [wipe_get, wipe_get]
  by_cases q : i ∈ vs
  · simp only [q, if_true]
    by_cases hi : i < σ.length
    · rw [List.getElem?_eq_getElem hi, List.getElem?_eq_getElem (hl ▸ hi)]; rfl
    · rw [List.getElem?_eq_none (by omega), List.getElem?_eq_none (by omega)]
  · simp only [q, if_false]; exact h i q
theorem wipe_wipe (σ : L2.St) (vs : List Nat) : wipe (wipe σ vs) vs = wipe σ vs := wipe_ext (wipe_length _ _) fun i hi => by rw [wipe_get, if_neg hi]
theorem wipe_set {σ : L2.St} {vs : List Nat} {i : Nat} (v : Option V) (hi : i ∈ vs) : wipe (σ.set i v) vs = wipe σ vs := wipe_ext (by simp) fun j hj => List.getElem?_set_ne (show i ≠ j from fun z => hj (by rw [← z]; exact hi))
/-- targets that touch the slots vs alone -/
def AftW (vs : List Nat) (σ : L2.St) (c : Cor Ω) (S : Sto) (H : Hp) (r : R Ev) (Q : L2.St → Hp → Prop) : Prop := match r with
  | .ok ρ S' => ∀ c' σ' H', Nx c S H c' S' H' → RepE c' H' ρ σ' → wipe σ' vs = wipe σ vs → Q σ' H'
  | _ => False
def tGw (Ω : PySem.W.Frag) (ws : List Nat) (g : Tg) : TG := fun u σ H Q => ∃ (c : Cor Ω) (ρ : Ev) (S : Sto) (v : Val), Rel c S H ∧ RepE c H ρ σ ∧ VRep c H v u ∧ AftW ws σ c S H (g v ρ S) Q
def tGsw (Ω : PySem.W.Frag) (ws : List Nat) (g : Tgs) : TGs := fun us σ H Q => ∃ (c : Cor Ω) (ρ : Ev) (S : Sto) (ds : List D), Rel c S H ∧ RepE c H ρ σ ∧ RepL c.A H ds us ∧ AftW ws σ c S H (g ds ρ S) Q
abbrev SGw (X : Cx) (ws : List Nat) (e : Expr) (g : Tg) : Prop := PG X e (tGw X.K ws g)
abbrev SGsw (X : Cx) (ws : List Nat) (es : List Expr) (g : Tgs) : Prop := PGs X es (tGsw X.K ws g)
section
variable {X : Cx} {W : WX} {pos : Pos} {ws : List Nat}
theorem AftW.later {c c1 : Cor Ω} {S S1 : Sto} {H H1 : Hp} {σ σ1 : L2.St} (hr : Rel c S H) (x : Nx c S H c1 S1 H1) (hw : wipe σ1 ws = wipe σ ws) {r : R Ev} {Q : L2.St → Hp → Prop} (h : AftW ws σ c S H r Q) : AftW ws σ1 c1 S1 H1 r Q := by
  cases r with
  | ok a S' => exact fun c' σ' H' y e z => h c' σ' H' (x.trans hr y) e (z.trans hw)
  | exc x S' => exact h
  | bad => exact h
theorem sgw_name {i : Nat} {x : Str} (hw : i ∈ ws) (hN : X.N.Nodup) (hi : X.N[i]? = some x) (hx : Loc X.env.scope x) (hf : X.fn x = true ∨ X.env.scope.names.lookup x = some .local := by first | exact .inl rfl | exact .inr rfl | assumption) : SGw X ws (.Name x pos) (gNm i) :=
  PG.imp (pg_name hN hi hx hf) fun u σ H Q ⟨c, ρ, S, v, hr, he, hv, q⟩ => q c _ H (Nx.refl hr) (he.set hv i) (wipe_set _ hw)
theorem sgsw_nil : SGsw X ws [] gsNil := PGs.imp pgs_nil fun us σ H Q ⟨c, ρ, S, ds, hr, he, hv, q⟩ => by
  cases hv with
  | nil => exact ⟨rfl, q c σ H (Nx.refl hr) he rfl⟩
  | cons _ _ => exact q.elim
theorem sgsw_cons {e : Expr} {es : List Expr} {g : Tg} {gs : Tgs} (h1 : SGw X ws e g) (h2 : SGsw X ws es gs)
    (hs : (assignEach (e :: es) X.env).map (·.2) = assign e X.env :: (assignEach es X.env).map (·.2) := by rfl) : SGsw X ws (e :: es) (gsCons g gs) := PGs.imp (pgs_cons h1 h2 hs) fun us σ H Q ⟨c, ρ, S, ds, hr, he, hv, q⟩ => by
  cases hv with
  | nil => exact q.elim
  | cons hd ht =>
    refine ⟨_, _, rfl, c, ρ, S, .d _, hr, he, hd, ?_⟩
    simp only [gsCons] at q
    revert q
    generalize g _ ρ S = r
    cases r with
    | ok ρ1 S1 => exact fun q c' σ' H' x e z => ⟨c', ρ1, S1, _, x.rel, e, RepL.keep (x.kp hr) _ _ ht, AftW.later hr x z q⟩
    | exc z S' => exact fun q => q
    | bad => exact fun q => q
theorem sgw_tup {es : List Expr} {k : Nat} {n : Nat} {gs : Tgs} (h : PG X (.Tuple es k pos) (gTup X.K n (tGsw X.K ws gs))) : SGw X ws (.Tuple es k pos) (gTp n gs) := PG.imp h fun u σ H Q ⟨c, ρ, S, v, hr, he, hv, q⟩ => by
  unfold gTp at q
  split at q
  · split at q
    · rename_i ds hl
      cases hv with
      | tup h1 h2 h3 => exact ⟨_, _, rfl, SqT.of h1, by rw [← h3.length]; exact hl, c, ρ, S, ds, hr, he, h3, q⟩
    · exact q.elim
  · exact q.elim
theorem sg_of {e : Expr} {g : Tg} (h : SGw X ws e g) : SG X e g := PG.imp h fun u σ H Q ⟨c, ρ, S, v, hr, he, hv, q⟩ => ⟨c, ρ, S, v, hr, he, hv, by
  revert q
  cases g v ρ S with
  | ok a S' => exact fun q c' σ' H' x e _ => q c' σ' H' x e
  | exc _ _ => exact fun q => q
  | bad => exact fun q => q⟩
end
def item (vs : List Nat) (tg : Tg) (tt : Te) (fe : Ex) (ρ : Ev) (d : D) (S : Sto) : R (Option D) := ((tg (.d d) (wipeE ρ vs) S).noX).bind fun ρ1 S1 => ((tt ρ1 S1).noX).bind fun b S2 => match b with
  | true => ((fe ρ1 S2).noX).bind fun v S3 => match v with
    | .d x => .ok (some x) S3
    | _ => .bad
  | false => .ok none S2
def compL (f : D → Sto → R (Option D)) : List D → Sto → R (List D)
  | [], S => .ok [] S
  | d :: ds, S => (f d S).bind fun o S1 => (compL f ds S1).bind fun r S2 => .ok (o.toList ++ r) S2
def tYesE : Te := fun _ S => .ok true S
/-- the items of a comprehension -/
def cmp (fi : Iy) (vs : List Nat) (tg : Tg) (tt : Te) (fe : Ex) : Ev → Sto → R (List D) := fun ρ S => (fi ρ S).bind fun ds S1 => compL (item vs tg tt fe ρ) ds S1
def eLc (fi : Iy) (vs : List Nat) (tg : Tg) (tt : Te) (fe : Ex) : Ex := fun ρ S => (cmp fi vs tg tt fe ρ S).bind fun r S2 => .ok (.d (.list r)) S2
def eLcM (fi : Iy) (vs : List Nat) (tg : Tg) (tt : Te) (fe : Ex) : Ex := fun ρ S => (cmp fi vs tg tt fe ρ S).bind fun r S2 => .ok (.loc S2.length) (S2 ++ [some (.lst r)])
theorem noX_ok {α : Type} {r : R α} {a : α} {S : Sto} (h : r.noX = .ok a S) : r = .ok a S := by
  cases r with
  | ok b S' => exact h
  | exc _ _ => cases h
  | bad => cases h
theorem bind_ok {α β : Type} {r : R α} {k : α → Sto → R β} {b : β} {S : Sto} (h : r.bind k = .ok b S) : ∃ a S1, r = .ok a S1 ∧ k a S1 = .ok b S := by
  cases r with
  | ok a S1 => exact ⟨a, S1, rfl, h⟩
  | exc _ _ => cases h
  | bad => cases h
theorem item_ok {vs : List Nat} {tg : Tg} {tt : Te} {fe : Ex} {ρ : Ev} {d : D} {S S' : Sto} {o : Option D} (h : item vs tg tt fe ρ d S = .ok o S') :
    ∃ ρ1 S1 b S2, tg (.d d) (wipeE ρ vs) S = .ok ρ1 S1 ∧ tt ρ1 S1 = .ok b S2 ∧ ((b = true ∧ ∃ x, fe ρ1 S2 = .ok (.d x) S' ∧ o = some x) ∨ (b = false ∧ o = none ∧ S' = S2)) := by
  unfold item at h
  obtain ⟨ρ1, S1, h1, h⟩ := bind_ok h
  obtain ⟨b, S2, h2, h⟩ := bind_ok h
  refine ⟨ρ1, S1, b, S2, noX_ok h1, noX_ok h2, ?_⟩
  cases b with
  | true =>
    obtain ⟨v, S3, h3, h⟩ := bind_ok h
    split at h
    · cases h; exact .inl ⟨rfl, _, noX_ok h3, rfl⟩
    · cases h
  | false => cases h; exact .inr ⟨rfl, rfl, rfl⟩
theorem item_noexc {vs : List Nat} {tg : Tg} {tt : Te} {fe : Ex} {ρ : Ev} {d : D} {S : Sto} : ∀ x S', item vs tg tt fe ρ d S ≠ .exc x S' := fun x S' h => by
  unfold item at h
  revert h
  cases (tg (.d d) (wipeE ρ vs) S) with
  | exc _ _ => intro h; cases h
  | bad => intro h; cases h
  | ok ρ1 S1 =>
    simp only [R.noX, R.bind]
    cases tt ρ1 S1 with
    | exc _ _ => intro h; cases h
    | bad => intro h; cases h
    | ok b S2 =>
      cases b with
      | false => intro h; cases h
      | true =>
        simp only
        cases fe ρ1 S2 with
        | exc _ _ => intro h; cases h
        | bad => intro h; cases h
        | ok v S3 => cases v <;> (intro h; cases h)
theorem compL_noexc {f : D → Sto → R (Option D)} (hf : ∀ d S x S', f d S ≠ .exc x S') : ∀ (ds : List D) (S : Sto) x S', compL f ds S ≠ .exc x S'
  | [], S, x, S', h => by cases h
  | d :: ds, S, x, S', h => by
    unfold compL at h
    revert h
    cases e : f d S with
    | exc y S1 => exact (hf d S y S1 e).elim
    | bad => intro h; cases h
    | ok o S1 =>
      simp only [R.bind]
      cases e2 : compL f ds S1 with
      | exc y S2 => exact (compL_noexc hf ds S1 y S2 e2).elim
      | bad => intro h; cases h
      | ok r S2 => intro h; cases h
/-- the new list, hidden from the code that makes its items -/
theorem Nx.poke {c0 : Cor Ω} {S0 : Sto} {H0 : Hp} {p : Addr} {o o' : HO} {c : Cor Ω} {S : Sto} {H : Hp} (hp : H0 p = none) (hA0 : c0.A p) (x : Nx c0 S0 (upd H0 p o) c S H) (r0 : Rel c0 S0 (upd H0 p o)) (nl0 : ¬ live c0 S0 p) (hH : H p = some o) (nt : ∀ vs, o ≠ .tup vs) (nt' : ∀ vs, o' ≠ .tup vs) : Nx c0 S0 (upd H0 p o') c S (upd H p o') := by
  have hA : c.A p := x.lock p hA0 nl0
  have nl : ¬ live c S p := fun z => by
    rcases x.lv p z with z | z
    · exact nl0 z
    · rw [upd_same] at z; cases z
  have k : Kp c.A H c.A (upd H p o') := ⟨fun b vs h => by rw [upd_ne (show b ≠ p from fun z => by subst z; rw [hH] at h; exact nt vs (Option.some.inj h))]; exact h, fun b q h z => by rw [upd_ne (show b ≠ p from fun y => z (by rw [y]; exact hA))]; exact h, fun _ _ _ z => z⟩
  refine ⟨x.pre, fun a h => ?_, x.lock, ⟨x.rel.len, x.rel.inj, fun n a q h1 h2 => ?_, fun a h => ?_, fun a vs h z => ?_⟩, fun a q h l => ?_, fun a h => ?_⟩
  · by_cases e : a = p
    · subst e; exact .inl hA0
    · rcases x.grow a h with z | z
      · exact .inl z
      · rw [upd_ne e] at z ⊢; exact .inr z
  · obtain ⟨z1, z2⟩ := x.rel.ob n a q h1 h2
    have hne : a ≠ p := fun z => nl (by subst z; exact ⟨n, q, h1, h2⟩)
    refine ⟨z1, ?_⟩
    cases q with
    | lst ds => obtain ⟨vs, q1, q2, q3⟩ := z2; exact ⟨vs, by rw [upd_ne hne]; exact q1, q2, RepL.keep k _ _ q3⟩
    | dic ds => obtain ⟨vs, q1, q2, q3⟩ := z2; exact ⟨vs, by rw [upd_ne hne]; exact q1, q2, RepK.keep k _ _ q3⟩
  · by_cases e : a = p
    · subst e; exact ⟨o', upd_same⟩
    · obtain ⟨q, z⟩ := x.rel.tr a h; exact ⟨q, by rw [upd_ne e]; exact z⟩
  · by_cases e : a = p
    · subst e; rw [upd_same] at h; exact nt' vs (Option.some.inj h)
    · rw [upd_ne e] at h; exact x.rel.nt a vs h z
  · by_cases e : a = p
    · subst e; rw [upd_same] at h ⊢; exact h
    · rw [upd_ne e] at h ⊢; exact x.fr a q (by rw [upd_ne e]; exact h) l
  · by_cases e : a = p
    · subst e; exact (nl h).elim
    · rcases x.lv a h with z | z
      · exact .inl z
      · rw [upd_ne e] at z ⊢; exact .inr z
/-- the context with the new list locked -/
def lockC (c : Cor Ω) (p : Addr) : Cor Ω := ⟨c.m, fun a => c.A a ∨ a = p⟩
theorem lock_rel {c : Cor Ω} {S : Sto} {H : Hp} (r : Rel c S H) {p : Addr} {o : HO} (hp : H p = none) (nt : ∀ vs, o ≠ .tup vs) : Rel (lockC c p) S (upd H p o) ∧ ¬ live (lockC c p) S p := by
  have na : ∀ a, c.A a → a ≠ p := fun a h e => by
    obtain ⟨q, z⟩ := r.tr a h
    rw [e, hp] at z; cases z
  have k := make_kp (ho := o) r hp
  refine ⟨⟨r.len, r.inj, fun n a q h1 h2 => ?_, fun a h => ?_, fun a vs h z => ?_⟩, fun ⟨n, q, h1, h2⟩ => na p (r.ob n p q h1 h2).1 rfl⟩
  · obtain ⟨z1, z2⟩ := r.ob n a q h1 h2
    refine ⟨.inl z1, ?_⟩
    cases q with
    | lst ds => obtain ⟨vs, q1, q2, q3⟩ := z2; exact ⟨vs, by rw [upd_ne (na a z1)]; exact q1, q2, RepL.keep k _ _ q3⟩
    | dic ds => obtain ⟨vs, q1, q2, q3⟩ := z2; exact ⟨vs, by rw [upd_ne (na a z1)]; exact q1, q2, RepK.keep k _ _ q3⟩
  · rcases h with h | h
    · obtain ⟨q, z⟩ := r.tr a h; exact ⟨q, by rw [upd_ne (na a h)]; exact z⟩
    · subst h; exact ⟨o, upd_same⟩
  · rcases z with z | z
    · rw [upd_ne (na a z)] at h; exact r.nt a vs h z
    · subst z; rw [upd_same] at h; exact nt vs (Option.some.inj h)
section
variable {mg : Str → Option Value} {W : WX}
abbrev W0 : WX := fun _ _ _ _ => False
theorem lc_run {vs : List Nat} {tg : Tg} {tt : Te} {fe : Ex} {ρ : Ev} {σ : L2.St} {c1 : Cor Ω} {S1 Sf : Sto} {H1 : Hp} {ds total : List D} {J : It} {Q : VK} (hr : Rel c1 S1 H1) (he : RepE c1 H1 ρ σ) (wd : WD c1 S1 H1 ds J)
    (hc : compL (item vs tg tt fe ρ) ds S1 = .ok total Sf)
    (hfin : ∀ (p : Addr) (c' : Cor Ω) (H : Hp) (us : List V), H1 p = none → Nx (lockC c1 p) S1 (upd H1 p (.lst us)) c' Sf H → H p = some (.lst us) → RepL c'.A H total us → us.length ≤ sizeLine → ¬ live c' Sf p → c'.A p → Q (.ref p) H) :
    ∀ p, H1 p = none → ∃ Wv : Nat → Nat → Hp → Prop, (∃ m, Wv 0 m (upd H1 p (.lst []))) ∧ ∀ i m H, Wv i m H →
      (J.stop i H ∧ Q (.ref p) H) ∨ (J.go i H ∧ ∃ Nx : Hp → Prop, (∀ H', Nx H' → ∃ m', m' < m ∧ Wv (i + 1) m' H') ∧ ∀ x H', J.yld i H x H' → tGw Ω vs tg x (wipe σ vs) H' fun σ2 H2 => wipe σ2 vs = wipe σ vs ∧ tT Ω mg W0 tt σ2 H2 fun b H3 =>
        if b = true then tE Ω mg W0 fe σ2 H3 fun y H4 => ∃ acc, H4 p = some (.lst acc) ∧ acc.length < sizeLine ∧ Nx (upd H4 p (.lst (acc ++ [y]))) else Nx H3) := by
  intro p hp
  have ntl : ∀ us : List V, ∀ vs, HO.lst us ≠ .tup vs := fun _ _ z => by cases z
  have LR := fun us => lock_rel (o := .lst us) hr hp (ntl us)
  refine lc_it wd.walk (fun i H => ∃ c' S' done us r, Nx (lockC c1 p) S1 (upd H1 p (.lst us)) c' S' H ∧ H p = some (.lst us) ∧ RepL c'.A H done us ∧ us.length ≤ i ∧ compL (item vs tg tt fe ρ) (ds.drop i) S' = .ok r Sf ∧ done ++ r = total) ?_ ?_ ?_ ?_
  · exact ⟨lockC c1 p, S1, [], [], total, Nx.refl (LR []).1, upd_same, .nil, Nat.le_refl _, hc, rfl⟩
  · rintro i H hi ⟨c', S', done, us, r, x, h1, _⟩ a o ha hl
    have hne := ne_of_none ha hp
    exact x.fr a o (by rw [upd_ne hne]; exact ha) hl
  · rintro i x H H' hi ⟨c', S', done, us, r, x1, h1, h2, h3, h4, h5⟩ ⟨d, hd, hg, hrep⟩
    have hx2 : Nx c' S' H c' S' H' := by
      rcases hg with rfl | ⟨T, vs, hT, rfl⟩
      · exact Nx.refl x1.rel
      · exact Nx.new x1.rel hT
    have hA' : c'.A p := x1.lock p (.inr rfl) (LR us).2
    have nl' : ∀ {c : Cor Ω} {S : Sto} {H0 : Hp}, Nx (lockC c1 p) S1 (upd H1 p (.lst us)) c S H0 → ¬ live c S p := fun y z => by
      rcases y.lv p z with z | z
      · exact (LR us).2 z
      · rw [upd_same] at z; cases z
    have hdrop : ds.drop i = d :: ds.drop (i + 1) := by
      obtain ⟨hl, e⟩ := List.getElem?_eq_some_iff.mp hd
      rw [List.drop_eq_getElem_cons hl, e]
    rw [hdrop] at h4
    unfold compL at h4
    obtain ⟨o, S2, e1, h4⟩ := bind_ok h4
    obtain ⟨r', S3, e2, h4⟩ := bind_ok h4
    have e3 : S3 = Sf ∧ o.toList ++ r' = r := by cases h4; exact ⟨rfl, rfl⟩
    obtain ⟨rfl, rfl⟩ := e3
    obtain ⟨ρ1, Sa, b, Sb, g1, g2, g3⟩ := item_ok e1
    have y1 := x1.trans (LR us).1 hx2
    have he1 : RepE c' H' ρ σ := by
      refine ⟨he.len, fun j v e => ?_⟩
      obtain ⟨u, q1, q2⟩ := he.at' j v e
      refine ⟨u, q1, ?_⟩
      have hk : Kp c1.A H1 (lockC c1 p).A (upd H1 p (.lst us)) := make_kp hr hp
      have hv : VRep (lockC c1 p) (upd H1 p (.lst us)) v u := by
        cases v with
        | d z => exact Rep.keep hk _ _ q2
        | loc n => exact q2
        | scr zs => obtain ⟨a, ws, w1, w2, w4, w5⟩ := q2; exact ⟨a, ws, w1, w2.elim (fun z => .inl ⟨hk.na z.1 z.2, hk.rd z.1 z.2⟩) .inr, w4, RepL.keep hk _ _ w5⟩
        | er z => obtain ⟨a, C, w1, w2, w3, w4⟩ := q2; exact ⟨a, C, w1, fun z => w2 (hk.grow a _ w4 z), w3, hk.fr a _ w4 w2⟩
      exact (hv.keep (LR us).1 y1)
    refine ⟨c', wipeE ρ vs, S', .d d, hx2.rel, wipe_rep he1 vs, hrep c'.A (fun a o' ha z => by
      rcases x1.grow a z with z | z
      · rcases z with z | z
        · exact z
        · exact absurd z (ne_of_none ha hp)
      · rw [upd_ne (ne_of_none ha hp), ha] at z; cases z), ?_⟩
    rw [g1]
    intro c2 σ2 H2 x2 e2' hw
    refine ⟨hw.trans (wipe_wipe _ _), c2, ρ1, Sa, x2.rel, e2', ?_⟩
    rw [g2]
    intro c3 H3 x3
    have y3 := (y1.trans (LR us).1 x2).trans (LR us).1 x3
    rcases g3 with ⟨rfl, z, g4, rfl⟩ | ⟨rfl, rfl, rfl⟩
    · refine iteT ⟨c3, ρ1, Sb, x3.rel, e2'.keep x2.rel x3, ?_⟩
      rw [g4]
      intro c4 H4 x4 y hy
      have y4 := y3.trans (LR us).1 x4
      have hp4 : H4 p = some (.lst us) := y4.fr p _ upd_same (LR us).2
      have hlen : us.length < sizeLine := by
        have := wd.len; omega
      refine ⟨us, hp4, hlen, c4, S2, done ++ [z], us ++ [y], r', Nx.poke hp (.inr rfl) y4 (LR us).1 (LR us).2 hp4 (ntl us) (ntl _), upd_same, ?_, by rw [List.length_append]; show us.length + 1 ≤ i + 1; omega, e2, by rw [List.append_assoc]; exact h5⟩
      have hA4 : c4.A p := y4.lock p (.inr rfl) (LR us).2
      have k4 : Kp c4.A H4 c4.A (upd H4 p (.lst (us ++ [y]))) := ⟨fun b vs h => by rw [upd_ne (show b ≠ p from fun z => by subst z; rw [hp4] at h; cases h)]; exact h, fun b q h w => by rw [upd_ne (show b ≠ p from fun y => w (by rw [y]; exact hA4))]; exact h, fun _ _ _ z => z⟩
      exact (RepL.keep k4 _ _ (RepL.keep (((hx2.trans x1.rel x2).trans x1.rel x3).trans x1.rel x4 |>.kp x1.rel) _ _ h2)).append (.cons (Rep.keep k4 _ _ hy) .nil)
    · refine iteF ⟨c3, S2, done, us, r', y3, y3.fr p _ upd_same (LR us).2, RepL.keep (((hx2.trans x1.rel x2).trans x1.rel x3) |>.kp x1.rel) _ _ h2, by omega, e2, h5⟩
  · rintro H ⟨c', S', done, us, r, x1, h1, h2, h3, h4, h5⟩
    rw [List.drop_length] at h4
    cases h4
    rw [List.append_nil] at h5
    subst h5
    refine hfin p c' H us hp x1 h1 h2 (Nat.le_trans h3 wd.len) (fun z => ?_) (x1.lock p (.inr rfl) (LR us).2)
    rcases x1.lv p z with z | z
    · exact (LR us).2 z
    · rw [upd_same] at z; cases z
/-- what is left when the comprehension is done: a list that nobody changes -/
theorem Nx.unlock {c1 c' : Cor Ω} {S1 Sf : Sto} {H1 H : Hp} {p : Addr} {o : HO} (hr : Rel c1 S1 H1) (hp : H1 p = none) (x : Nx (lockC c1 p) S1 (upd H1 p o) c' Sf H) (nl : ¬ live c' Sf p) : Nx c1 S1 H1 ⟨c'.m, fun a => c'.A a ∧ a ≠ p⟩ Sf H := by
  have k : Kp c'.A H (fun a => c'.A a ∧ a ≠ p) H := ⟨fun _ _ h => h, fun _ _ h _ => h, fun _ _ _ z => z.1⟩
  refine ⟨x.pre, fun a h => ?_, fun a h l => ⟨x.lock a (.inl h) l, fun e => ?_⟩, ⟨x.rel.len, x.rel.inj, fun n a q h1 h2 => ?_, fun a h => x.rel.tr a h.1, fun a vs h z => x.rel.nt a vs h z.1⟩, fun a q h l => ?_, fun a h => ?_⟩
  · rcases x.grow a h.1 with z | z
    · rcases z with z | z
      · exact .inl z
      · exact absurd z h.2
    · rw [upd_ne h.2] at z; exact .inr z
  · obtain ⟨q, z⟩ := hr.tr a h
    rw [e, hp] at z; cases z
  · obtain ⟨z1, z2⟩ := x.rel.ob n a q h1 h2
    refine ⟨⟨z1, fun z => nl (by subst z; exact ⟨n, q, h1, h2⟩)⟩, ?_⟩
    cases q with
    | lst ds => obtain ⟨vs, q1, q2, q3⟩ := z2; exact ⟨vs, q1, q2, RepL.keep k _ _ q3⟩
    | dic ds => obtain ⟨vs, q1, q2, q3⟩ := z2; exact ⟨vs, q1, q2, RepK.keep k _ _ q3⟩
  · exact x.fr a q (by rw [upd_ne (ne_of_none h hp)]; exact h) l
  · rcases x.lv a h with z | z
    · exact .inl z
    · by_cases e : a = p
      · subst e; exact .inr hp
      · rw [upd_ne e] at z; exact .inr z
theorem eLc_r {fi : Iy} {vs : List Nat} {tg : Tg} {tt : Te} {fe : Ex} {σ : L2.St} {H : Hp} {Q : VK} (h : tE Ω mg W (eLc fi vs tg tt fe) σ H Q) : tLc (tI Ω mg W fi) (tGw Ω vs tg) (tT Ω mg W0 tt) (tE Ω mg W0 fe) vs σ H Q := by
  obtain ⟨c, ρ, S, hr, he, q⟩ := h
  have q1 := Aft.bind hr q
  refine ⟨c, ρ, S, hr, he, (Aft.bind hr q1).mono fun ds c1 S1 H1 x1 h1 J wd => ?_⟩
  cases e : compL (item vs tg tt fe ρ) ds S1 with
  | bad => rw [e] at h1; exact h1.elim
  | exc x S' => exact (compL_noexc (fun d S x S' => item_noexc x S') ds S1 x S' e).elim
  | ok total Sf =>
    rw [e] at h1
    refine lc_run x1.rel (he.keep hr x1) wd e fun p c' H us hp x h2 h3 h4 h5 h6 => ?_
    have k : Kp c'.A H (fun a => c'.A a ∧ a ≠ p) H := ⟨fun _ _ h => h, fun _ _ h _ => h, fun _ _ _ z => z.1⟩
    have y := Nx.unlock x1.rel hp x h5
    exact h1 _ H y _ H (Nx.refl y.rel) _ (.lst (fun z => z.2 rfl) h2 h4 (RepL.keep k _ _ h3))
theorem se_lc {X : Cx} {e : Expr} {fi : Iy} {vs : List Nat} {tg : Tg} {tt : Te} {fe : Ex} (h : PE X e (tLc (tI X.K X.mg W fi) (tGw X.K vs tg) (tT X.K X.mg W0 tt) (tE X.K X.mg W0 fe) vs)) : SE X W e (eLc fi vs tg tt fe) := PE.imp h fun σ H Q q => eLc_r q
theorem ss_setLc {X : Cx} {st : Stmt} {i : Nat} {fi : Iy} {vs : List Nat} {tg : Tg} {tt : Te} {fe : Ex} (h : PS X st (tAsg (tLc (tI X.K X.mg W fi) (tGw X.K vs tg) (tT X.K X.mg W0 tt) (tE X.K X.mg W0 fe) vs) (gName i))) : SS X W st (sSet i (eLc fi vs tg tt fe)) :=
  PS.imp h fun D σ H ⟨c, ρ, S, hr, he, q⟩ => eLc_r ⟨c, ρ, S, hr, he, (Aft.st hr he q).mono fun v c1 S1 H1 x1 h1 u hu => h1 c1 _ H1 (Nx.refl x1.rel) ((he.keep hr x1).set hu i)⟩
end
end DL

namespace DL
open PySem PySem.Spec PyProof.Rows L2
/-! ### a dict that is walked: locked meanwhile -/
structure Kl (a : Addr) (H H' : Hp) : Prop where
  ne : ∀ b, b ≠ a → H' b = H b
  rd : ∀ kvs, Rd H a (.dK kvs) → Rd H' a (.dK kvs)
  nt : ∀ vs, H a ≠ some (.tup vs)
  nl : ∀ vs, H a ≠ some (.lst vs)
  nf : ∀ o vs, H a ≠ some (.frz o (.lst vs))
  nx : ∀ φ, H a ≠ some (.ext φ)
section
variable {A : Addr → Prop} {a : Addr} {H H' : Hp}
mutual
theorem Rep.lk (k : Kl a H H') : ∀ (d : D) (v : V), Rep A H d v → Rep A H' d v
  | .none, _, h => by cases h; exact .non
  | .bool _, _, h => by cases h; exact .bl _
  | .int _, _, h => by cases h; exact .int _
  | .str _, _, h => by cases h; exact .str _
  | .tuple ds, _, h => by
    cases h with
    | tup h hl r => exact .tup (by rw [k.ne _ fun z => k.nt _ (by rw [← z]; exact h)]; exact h) hl (RepL.lk k ds _ r)
  | .list ds, _, h => by
    cases h with
    | lst n h hl r => exact .lst n (by rw [k.ne _ fun z => k.nl _ (by rw [← z]; exact h)]; exact h) hl (RepL.lk k ds _ r)
  | .dict ds, _, h => by
    cases h with
    | dic n h hl r =>
      rename_i b kvs
      refine .dic n ?_ hl (RepK.lk k ds _ r)
      by_cases z : b = a
      · subst z; exact k.rd _ h
      · rcases h with h | ⟨o, h⟩
        · exact .inl (by rw [k.ne _ z]; exact h)
        · exact .inr ⟨o, by rw [k.ne _ z]; exact h⟩
theorem RepL.lk (k : Kl a H H') : ∀ (ds : List D) (vs : List V), RepL A H ds vs → RepL A H' ds vs
  | [], _, h => by cases h; exact .nil
  | d :: ds, _, h => by
    cases h with
    | cons h1 h2 => exact .cons (Rep.lk k d _ h1) (RepL.lk k ds _ h2)
theorem RepK.lk (k : Kl a H H') : ∀ (ds : List (D × D)) (vs : List (Key × V)), RepK A H ds vs → RepK A H' ds vs
  | [], _, h => by cases h; exact .nil
  | (_, d) :: ds, _, h => by
    cases h with
    | cons h1 h2 => exact .cons (Rep.lk k d _ h1) (RepK.lk k ds _ h2)
end
theorem Kl.lock {o : Obj} {kvs : List (Key × V)} (h : H a = some (.dK kvs)) : Kl a H (upd H a (.frz o (.dK kvs))) :=
  ⟨fun b hb => upd_ne hb, (fun ks r => by
    rcases r with r | ⟨o', r⟩
    · rw [h] at r; cases r; exact .inr ⟨o, upd_same⟩
    · rw [h] at r; cases r), (fun _ z => by rw [h] at z; cases z), (fun _ z => by rw [h] at z; cases z), (fun _ _ z => by rw [h] at z; cases z), (fun _ z => by rw [h] at z; cases z)⟩
theorem Kl.unlock {o : Obj} {kvs : List (Key × V)} (h : H a = some (.frz o (.dK kvs))) : Kl a H (upd H a (.dK kvs)) :=
  ⟨fun b hb => upd_ne hb, (fun ks r => by
    rcases r with r | ⟨o', r⟩
    · rw [h] at r; cases r
    · rw [h] at r; cases r; exact .inl upd_same), (fun _ z => by rw [h] at z; cases z), (fun _ z => by rw [h] at z; cases z), (fun _ _ z => by rw [h] at z; cases z), (fun _ z => by rw [h] at z; cases z)⟩
variable {c : Cor Ω} {S : Sto} {ρ : Ev} {σ : L2.St}
theorem VRep.lk (k : Kl a H H') : ∀ {v : Val} {u : V}, VRep c H v u → VRep c H' v u
  | .d _, _, h => Rep.lk k _ _ h
  | .loc _, _, h => h
  | .scr _, _, ⟨b, vs, h1, h2, h4, h5⟩ => ⟨b, vs, h1, h2.elim (fun z => .inl ⟨z.1, z.2.elim (fun h3 => .inl (by rw [k.ne _ fun z => k.nl vs (by rw [← z]; exact h3)]; exact h3)) (fun ⟨o, h3⟩ => .inr ⟨o, by rw [k.ne _ fun z => k.nf o vs (by rw [← z]; exact h3)]; exact h3⟩)⟩) .inr, h4, RepL.lk k _ _ h5⟩
  | .er _, _, ⟨b, C, h1, h2, h3, h4⟩ => ⟨b, C, h1, h2, h3, by rw [k.ne _ fun z => k.nx _ (by rw [← z]; exact h4)]; exact h4⟩
theorem RepE.lk (k : Kl a H H') (e : RepE c H ρ σ) : RepE c H' ρ σ := ⟨e.len, fun i v h => let ⟨u, h1, h2⟩ := e.at' i v h; ⟨u, h1, h2.lk k⟩⟩
theorem Rel.lk (k : Kl a H H') (hn : ¬ c.A a) (nt' : ∀ vs, H' a ≠ some (.tup vs)) (r : Rel c S H) : Rel c S H' := by
  have ne : ∀ b, c.A b → b ≠ a := fun b h z => hn (z ▸ h)
  refine ⟨r.len, r.inj, fun n b o h1 h2 => ?_, fun b h => ?_, fun b vs h z => ?_⟩
  · obtain ⟨z1, z2⟩ := r.ob n b o h1 h2
    refine ⟨z1, ?_⟩
    cases o with
    | lst ds => obtain ⟨vs, q1, q2, q3⟩ := z2; exact ⟨vs, by rw [k.ne _ (ne b z1)]; exact q1, q2, RepL.lk k _ _ q3⟩
    | dic ds => obtain ⟨vs, q1, q2, q3⟩ := z2; exact ⟨vs, by rw [k.ne _ (ne b z1)]; exact q1, q2, RepK.lk k _ _ q3⟩
  · obtain ⟨o, q⟩ := r.tr b h
    exact ⟨o, by rw [k.ne _ (ne b h)]; exact q⟩
  · rw [k.ne _ (ne b z)] at h; exact r.nt b vs h z
/-- from the locked heap back -/
theorem Nx.unlk {c1 : Cor Ω} {S1 : Sto} {H1 : Hp} {o : Obj} {kvs : List (Key × V)} (hr : Rel c S H) (h : H a = some (.dK kvs)) (hn : ¬ c.A a) (x : Nx c S (upd H a (.frz o (.dK kvs))) c1 S1 H1) :
    H1 a = some (.frz o (.dK kvs)) ∧ Nx c S H c1 S1 (upd H1 a (.dK kvs)) := by
  have hl : ¬ live c S a := fun z => hn (hr.live z)
  have h1 : H1 a = some (.frz o (.dK kvs)) := x.fr a _ upd_same hl
  have hn1 : ¬ c1.A a := fun z => by
    rcases x.grow a z with z | z
    · exact hn z
    · rw [upd_same] at z; cases z
  refine ⟨h1, x.pre, fun b z => ?_, x.lock, Rel.lk (Kl.unlock h1) hn1 (fun vs z => by rw [upd_same] at z; cases z) x.rel, fun b q hb hlb => ?_, fun b z => ?_⟩
  · rcases x.grow b z with z | z
    · exact .inl z
    · by_cases e : b = a
      · subst e; rw [upd_same] at z; cases z
      · rw [upd_ne e] at z; exact .inr z
  · by_cases e : b = a
    · subst e; rw [h] at hb; cases hb; exact upd_same
    · rw [upd_ne e]; exact x.fr b q (by rw [upd_ne e]; exact hb) hlb
  · rcases x.lv b z with z | z
    · exact .inl z
    · by_cases e : b = a
      · subst e; rw [upd_same] at z; cases z
      · rw [upd_ne e] at z; exact .inr z
end
def itKeys (i : Nat) : Iy := fun ρ S => match ρ[i]? with
  | some (some (.d (.dict kds))) => .ok (kds.map (·.1)) S
  | _ => .bad
def lockedAt (i : Nat) (σ : L2.St) (H : Hp) : Prop := ∃ a o kvs, σ[i]? = some (some (.ref a)) ∧ H a = some (.frz o (.dK kvs))
def tIk (Ω : PySem.W.Frag) (mg : Str → Option Value) (W : WX) (i : Nat) : TI := fun σ H R' => lockedAt i σ H ∧ tI Ω mg W (itKeys i) σ H R'
theorem RepK.keysV {A : Addr → Prop} {H : Hp} : ∀ {kds : List (D × D)} {kvs : List (Key × V)}, RepK A H kds kvs → ∀ {i : Nat} {k : Key} {v : V}, kvs[i]? = some (k, v) → (kds.map (·.1))[i]? = some (keyD k)
  | _, _, .nil, i, k, v, e => by simp at e
  | _, _, .cons h r, 0, k, v, e => by simp at e; obtain ⟨rfl, rfl⟩ := e; rfl
  | _, _, .cons h r, i + 1, k, v, e => by simpa using RepK.keysV r (i := i) (by simpa using e)
section
variable {X : Cx} {W : WX} {tg : Expr}
theorem pi_lk {e : Expr} {i : Nat} (h : PE X e (tVar i)) : PI X tg e (tIk X.K X.mg W i) := PI.imp (pi_keys h) fun σ H R' ⟨⟨a, o, kvs, h1, h2⟩, c, ρ, S, hr, he, q⟩ => by
  refine ⟨.ref a, h1, a, o, rfl, .inl ⟨kvs, h2, ?_⟩⟩
  unfold itKeys at q
  split at q
  · rename_i kds e1
    obtain ⟨u, g1, g2⟩ := he.at' i _ e1
    rw [h1] at g1; cases g1
    cases g2 with
    | dic n hd hl r =>
      rename_i kvs'
      have ek : kvs' = kvs := by
        rcases hd with hd | ⟨o', hd⟩
        · rw [h2] at hd; cases hd
        · rw [h2] at hd; cases hd; rfl
      subst ek
      refine q c H (Nx.refl hr) _ ⟨?_, by rw [List.length_map, r.length]; exact hl⟩
      rw [List.length_map, r.length]
      refine walk_keys.mono (fun H' g => g a _ h2 fun z => n (hr.live z)) fun j H1 x H2 hj hg y => ?_
      obtain ⟨rfl, k, v, hk, rfl⟩ := y
      exact ⟨keyD k, r.keysV hk, .inl rfl, fun A _ => rep_keyD k⟩
  · exact q.elim
theorem PS.or {st : Stmt} {t t' : TS} (h : PS X st t) (h' : PS X st t') : PS X st (fun D σ H => t D σ H ∨ t' D σ H) := ⟨fun pins s σ H D I hw => by
  rcases hw with hw | hw
  · exact h.run pins s σ H D I hw
  · exact h'.run pins s σ H D I hw⟩
theorem PE.or {e : Expr} {t t' : TE} (h : PE X e t) (h' : PE X e t') : PE X e (fun σ H Q => t σ H Q ∨ t' σ H Q) := ⟨fun pins s σ H D I hw => by
  rcases hw with hw | hw
  · exact h.run pins s σ H D I hw
  · exact h'.run pins s σ H D I hw⟩
def noEx (r : R Flow) : R Flow := match r with
  | .ok (.ex _ _) _ => .bad
  | r => r
/-- for x in d, d the dict in slot i -/
def sForK (i : Nat) (tg : Tg) (g : Blk) : Blk := fun ρ S => noEx (sFor (itKeys i) tg g ρ S)
def eLcK (i : Nat) (vs : List Nat) (tg : Tg) (tt : Te) (fe : Ex) : Ex := fun ρ S => (eLc (itKeys i) vs tg tt fe ρ S).noX
theorem dict_at {c : Cor Ω} {S : Sto} {H : Hp} {ρ : Ev} {σ : L2.St} {i : Nat} {kds : List (D × D)} (he : RepE c H ρ σ) (e : ρ[i]? = some (some (.d (.dict kds)))) : ∃ a kvs, σ[i]? = some (some (.ref a)) ∧ ¬ c.A a ∧ Rd H a (.dK kvs) := by
  obtain ⟨u, g1, g2⟩ := he.at' i _ e
  cases g2 with
  | dic n hd hl r => exact ⟨_, _, g1, n, hd⟩
theorem ss_forK {pos : Pos} {e : Expr} {body : List Stmt} {i : Nat} {t : Tg} {g : Blk} (hp : PassesOwn (model X.prog X.w) X.A X.env X.xe) (hc : X.calm = true) (hi : PE X e (tVar i)) (ht : SG X tg t) (hg : SSs X W body g)
    (hs : ∀ x, foldedSetIterable e X.env x = pure x := by intro _; rfl) : SS X W (.For tg e body [] pos) (sForK i t g) := by
  have P : PS X (.For tg e body [] pos) (tFor (tIk X.K X.mg W i) (tG X.K t) (tS X.K X.mg W g)) := ps_for hp hc (pi_lk hi) ht hg hs
  refine PS.imp (PS.or (ps_lock P) P) fun D σ H ⟨c, ρ, S, hr, he, q⟩ => ?_
  unfold sForK at q
  have q0 := q
  unfold sFor itKeys at q
  split at q
  · rename_i kds e1
    obtain ⟨a, kvs, h1, h2, h3⟩ := dict_at (S := S) he e1
    rcases h3 with h3 | ⟨o, h3⟩
    · refine .inl ⟨a, .dK kvs, h3, trivial, fun od => ⟨⟨a, od, kvs, h1, upd_same⟩, for_r ?_⟩⟩
      have k := Kl.lock (o := od) h3
      refine ⟨c, ρ, S, Rel.lk k h2 (fun vs z => by rw [upd_same] at z; cases z) hr, he.lk k, ?_⟩
      revert q0
      generalize sFor (itKeys i) t g ρ S = r
      intro q0
      cases r with
      | bad => exact q0
      | exc x S' => exact q0
      | ok fl S' =>
        cases fl with
        | ex x ρ' => exact q0.elim
        | nx ρ' => exact fun c' σ' H' x e => let ⟨z1, z2⟩ := Nx.unlk hr h3 h2 x; ⟨z1, q0 c' σ' _ z2 (e.lk (Kl.unlock z1))⟩
        | bk ρ' => exact fun c' σ' H' x e => let ⟨z1, z2⟩ := Nx.unlk hr h3 h2 x; ⟨z1, q0 c' σ' _ z2 (e.lk (Kl.unlock z1))⟩
        | ct ρ' => exact fun c' σ' H' x e => let ⟨z1, z2⟩ := Nx.unlk hr h3 h2 x; ⟨z1, q0 c' σ' _ z2 (e.lk (Kl.unlock z1))⟩
        | rt v => exact fun c' H' u x e => let ⟨z1, z2⟩ := Nx.unlk hr h3 h2 x; ⟨z1, q0 c' _ u z2 (e.lk (Kl.unlock z1))⟩
    · refine .inr ⟨⟨a, o, kvs, h1, h3⟩, for_r ⟨c, ρ, S, hr, he, ?_⟩⟩
      revert q0
      generalize sFor (itKeys i) t g ρ S = r
      intro q0
      cases r with
      | bad => exact q0
      | exc x S' => exact q0
      | ok fl S' =>
        cases fl with
        | ex x ρ' => exact q0.elim
        | nx ρ' => exact q0
        | bk ρ' => exact q0
        | ct ρ' => exact q0
        | rt v => exact q0
  · exact q.elim
theorem se_lcK {e : Expr} {i : Nat} {vs : List Nat} {t : Tg} {tt : Te} {fe : Ex} (P : PE X e (tLc (tIk X.K X.mg W i) (tGw X.K vs t) (tT X.K X.mg W0 tt) (tE X.K X.mg W0 fe) vs)) : SE X W e (eLcK i vs t tt fe) := by
  refine PE.imp (PE.or (pe_lock P) P) fun σ H Q ⟨c, ρ, S, hr, he, q⟩ => ?_
  unfold eLcK at q
  have q0 := q
  unfold eLc cmp itKeys at q
  split at q
  · rename_i kds e1
    obtain ⟨a, kvs, h1, h2, h3⟩ := dict_at (S := S) he e1
    rcases h3 with h3 | ⟨o, h3⟩
    · refine .inl ⟨a, .dK kvs, h3, trivial, fun od => ⟨⟨a, od, kvs, h1, upd_same⟩, ?_⟩⟩
      have k := Kl.lock (o := od) h3
      refine (show tLc (tI X.K X.mg W (itKeys i)) (tGw X.K vs t) (tT X.K X.mg W0 tt) (tE X.K X.mg W0 fe) vs σ (upd H a (.frz od (.dK kvs))) (fun v H' => H' a = some (.frz od (.dK kvs)) ∧ Q v (upd H' a (.dK kvs))) from eLc_r ?_)
      refine ⟨c, ρ, S, Rel.lk k h2 (fun vs z => by rw [upd_same] at z; cases z) hr, he.lk k, ?_⟩
      revert q0
      generalize eLc (itKeys i) vs t tt fe ρ S = r
      intro q0
      cases r with
      | bad => exact q0
      | exc x S' => exact q0.elim
      | ok v S' => exact fun c' H' x u hu => let ⟨z1, z2⟩ := Nx.unlk hr h3 h2 x; ⟨z1, q0 c' _ z2 u (hu.lk (Kl.unlock z1))⟩
    · refine .inr ⟨⟨a, o, kvs, h1, h3⟩, (show tLc (tI X.K X.mg W (itKeys i)) (tGw X.K vs t) (tT X.K X.mg W0 tt) (tE X.K X.mg W0 fe) vs σ H Q from eLc_r ⟨c, ρ, S, hr, he, ?_⟩)⟩
      revert q0
      generalize eLc (itKeys i) vs t tt fe ρ S = r
      intro q0
      cases r with
      | bad => exact q0
      | exc x S' => exact q0.elim
      | ok v S' => exact q0
  · exact q.elim
end
/-! ### errors -/
section
variable {X : Cx} {W : WX} {pos : Pos}
theorem ss_raise {e : Expr} {C : Addr} {x : Str} (hc : X.calm = true) (tk : Takes X W) (hx : X.mg x = some (.ref C)) (h : PMk X e (fun _ H Q => Q (.ref C) none H)) : SS X W (.Raise (some e) none pos) (sRaise ⟨x⟩) :=
  PS.imp (ps_raise hc tk h) fun D σ H ⟨c, ρ, S, hr, he, q⟩ => q c σ H (.ref C) none (Nx.refl hr) he ⟨C, hx, rfl, rfl⟩
/-- try: body except C: suite; m tells of a class whether it is caught -/
def sTry (m : Str → Option Bool) (g h : Blk) : Blk := fun ρ S => match g ρ S with
  | .ok (.ex x ρ') S' => match m x.cls with
    | some true => noEx (h ρ' S')
    | some false => .ok (.ex x ρ') S'
    | none => .bad
  | r => r
theorem ss_try {x : Str} {cv : Value} {body suite : List Stmt} {b₀ : Stmt} {np pos' : Pos} {m : Str → Option Bool} {g h : Blk} (hs : X.stack = X.env :: X.outer) (hf : X.env.frame = some X.env.locals) (hc : Names X x cv) (tk : Takes X W)
    (hm : ∀ y b C, m y = some b → X.mg y = some (.ref C) → PySem.W.exmOne X.K (.ref C) cv = some b)
    (hb : ∀ (W : WX) (pn : List (Addr × Obj)) (xe : Value → Shared → Prop), Takes (X.tr pn xe) W → PassesOwn (model X.prog X.w) X.A X.env xe → SSs (X.tr pn xe) W body g)
    (hsu : ∀ (a : Addr) (oe : Obj) (pn : List (Addr × Obj)), SSs (X.suite a ((a, oe) :: pn)) W0 (b₀ :: suite) h) :
    SS X W (.Try body [.ExceptHandler (some (.Name x np)) none (b₀ :: suite) pos'] [] [] pos) (sTry m g h) :=
  PS.imp (ps_try_only (tb := fun W => tS X.K X.mg W g) (ts := fun _ _ _ => tS X.K X.mg W0 h) hs hf hc tk hb (fun a oe cls d pn _ _ => hsu a oe pn)) fun D σ H ⟨c, ρ, S, hr, he, q⟩ => by
    refine ⟨c, ρ, S, hr, he, ?_⟩
    unfold sTry at q
    revert q
    cases g ρ S with
    | ok fl S' =>
      cases fl with
      | nx ρ' => exact fun q => q
      | bk ρ' => exact fun q => q
      | ct ρ' => exact fun q => q
      | rt v => exact fun q => q
      | ex y ρ' =>
        intro q c' σ' H' cls d x1 e1 hx
        obtain ⟨C, h1, rfl, rfl⟩ := hx
        cases e : m y.cls with
        | none => simp only [e] at q; exact q.elim
        | some b =>
          refine ⟨b, hm y.cls b C e h1, fun hb a _ => ?_, fun hb => ?_⟩
          · subst hb
            simp only [e] at q
            refine ⟨c', ρ', S', x1.rel, e1, ?_⟩
            have q1 := AftS.later hr x1 q
            revert q1
            cases h ρ' S' with
            | bad => exact fun q => q
            | exc _ _ => exact fun q => q
            | ok fl S2 =>
              cases fl with
              | ex _ _ => exact fun q => q.elim
              | nx ρ' => exact fun q => q
              | bk ρ' => exact fun q => q
              | ct ρ' => exact fun q => q
              | rt v => exact fun q => q
          · subst hb
            simp only [e] at q
            exact q c' σ' H' _ none x1 e1 ⟨C, h1, rfl, rfl⟩
    | exc x S' => exact fun q => q
    | bad => exact fun q => q
end
end DL

namespace DL
open PySem PySem.Spec PyProof.Rows L2
/-! ### what the proof never comes to -/
def sBad : Blk := fun _ _ => .bad
def eBad : Ex := fun _ _ => .bad
section
variable {X : Cx} {W : WX} {pos : Pos}
theorem ss_never {sts : List Stmt} : SSs X W sts sBad := PSs.imp pss_never fun D σ H ⟨c, ρ, S, hr, he, q⟩ => q.elim
theorem ss_never1 {st : Stmt} : SS X W st sBad := PS.imp ps_never fun D σ H ⟨c, ρ, S, hr, he, q⟩ => q.elim
theorem se_never {e : Expr} : SE X W e eBad := ⟨fun pins s σ H Q I ⟨c, ρ, S, hr, he, q⟩ => q.elim⟩
/-! ### a, b = x, y -/
def sPar (is : List Nat) (f : La) : Blk := fun ρ S => (f ρ S).st ρ fun vs S1 => if vs.length = is.length then .ok (.nx ((is.zip vs).foldl (fun r p => r.set p.1 (some p.2)) ρ)) S1 else .bad
theorem ss_par2 {i j : Nat} {f : La} {st : Stmt} (h : PS X st (tPar i j (tA X.K X.mg W f))) : SS X W st (sPar [i, j] f) := PS.imp h fun D σ H ⟨c, ρ, S, hr, he, q⟩ => by
  refine ⟨c, ρ, S, hr, he, (Aft.st hr he q).mono fun vs c1 S1 H1 x1 h1 us hus => ?_⟩
  split at h1
  · rename_i hl
    match vs, us, hus, hl with
    | [v, w], [x, y], .cons hv (.cons hw .nil), _ => exact ⟨x, y, rfl, h1 c1 _ H1 (Nx.refl x1.rel) (((he.keep hr x1).set hv i).set hw j)⟩
  · exact h1.elim
theorem ss_par3 {i j k : Nat} {f : La} {st : Stmt} (h : PS X st (tPar3 i j k (tA X.K X.mg W f))) : SS X W st (sPar [i, j, k] f) := PS.imp h fun D σ H ⟨c, ρ, S, hr, he, q⟩ => by
  refine ⟨c, ρ, S, hr, he, (Aft.st hr he q).mono fun vs c1 S1 H1 x1 h1 us hus => ?_⟩
  split at h1
  · rename_i hl
    match vs, us, hus, hl with
    | [v, w, u], [x, y, z], .cons hv (.cons hw (.cons hu .nil)), _ => exact ⟨x, y, z, rfl, h1 c1 _ H1 (Nx.refl x1.rel) ((((he.keep hr x1).set hv i).set hw j).set hu k)⟩
  · exact h1.elim
end
/-! ### t[::-1] -/
theorem rev_adjust (n : Nat) : Builtin.Slice.sliceAdjust none none (-1) (n : Int) = ((n : Int) - 1, -1) := by
  unfold Builtin.Slice.sliceAdjust
  simp
  try omega
theorem rev_places (n : Nat) : Builtin.Slice.slicePlaces ((n : Int) - 1) (-1) (-1) = n := by
  unfold Builtin.Slice.slicePlaces
  rw [if_neg (by decide)]
  by_cases h : (n : Int) - 1 > -1
  · rw [if_pos h]; show (((n : Int) - 1 - -1 - 1) / (- -1) + 1).toNat = n; simp; try omega
  · rw [if_neg h]; omega
theorem rev_pick (xs : Array Value) : ((List.range xs.size).filterMap fun (m : Nat) => xs[(((xs.size : Int) - 1) + (m : Int) * (-1)).toNat]?).toArray = xs.toList.reverse.toArray := by
  have e : (fun (m : Nat) => xs[(((xs.size : Int) - 1) + (m : Int) * (-1)).toNat]?) = fun (m : Nat) => xs[xs.size - 1 - m]? := by
    funext m
    have : (((xs.size : Int) - 1) + (m : Int) * (-1)).toNat = xs.size - 1 - m := by omega
    rw [this]
  have e2 : (List.range xs.size).filterMap (fun (m : Nat) => xs[xs.size - 1 - m]?) = ((List.range xs.size).map (fun k => xs.size - 1 - k)).filterMap (xs[·]?) := by
    rw [List.filterMap_map]; rfl
  rw [e, e2, PySem.W.krv_range, List.filterMap_reverse, PySem.W.krv_all]
theorem getItem_tuple_rev {prog : Program} {w : World} {A : Around} {E : Value → Shared → Prop} {s : Shared} {t sl : Addr} {items : Array Value} {vs : Value} {Q : Value → Shared → Prop} (ht : IsTup s.heap t items) (hs : s.heap.IsSliceOf sl .none .none vs) (ps : IsPart vs (some (-1)))
    (h : Q (.ref s.heap.objs.size) { s with heap := s.heap.push { cls := .type "tuple", data := .seq items.toList.reverse.toArray } })
    (hsz : items.size ≤ sizeLine) : wpAny (model prog w) A (getItem (.ref t) (.ref sl)) Q E s := by
  have htake : sizeOk (.seq items.toList.reverse.toArray) := by
    show items.toList.reverse.toArray.size ≤ sizeLine
    rw [List.size_toArray, List.length_reverse, Array.length_toList]
    exact hsz
  obtain ⟨os, hos, hcs, hds⟩ := id hs
  have hTs : s.TypeIs (.ref sl) "slice" := ⟨os, hos, hcs⟩
  unfold getItem
  try with_reducible refine wpAny_holding ?_
  first | refine wpAny_bind (wpAny_pure ?_) | skip
  refine wpAny_bind (wpAny_sequenceKey ht.typeIs (by decide) ?_)
  refine wpAny_bind (wpAny_callSpecial?_slot (name := Str.ofString "__getitem__") ht.typeIs PyProof.Rows.slot_tuple_getitem
    (wpAny_call_entry PyProof.Rows.slot_tuple_getitem ht.typeIs entry_tuple_getitem ?_ (args_tuple_getitem _ _)))
  show wpAny _ _ (Builtin.Tuple.tupleItemsOf (.ref t) >>= _) _ _ s
  refine wpAny_bind (tupleItemsOf_ ht ?_)
  refine wpAny_bind (wpAny_typeOf hTs ?_)
  rw [if_pos (by decide)]
  have ap : ∀ {Q : Int × Int × Nat → Shared → Prop}, Q ((items.size : Int) - 1, -1, items.size) s → wpAny (model prog w) A.in1 (Builtin.Slice.sliceApplied (.ref sl) (pure (items.size : Int))) Q E s := fun {Q} h => by
    unfold Builtin.Slice.sliceApplied Builtin.Slice.sliceFields
    refine wpAny_bind (wpAny_bind (wpAny_field hos hds (x := .none) rfl (wpAny_bind (wpAny_field hos hds (x := .none) rfl (wpAny_bind (wpAny_field hos hds (x := vs) rfl (wpAny_pure ?_)))))))
    refine wpAny_bind (HT.slicePart_ ps ?_)
    show wpAny _ _ (if ((-1 : Int) == 0) = true then _ else _) _ _ s
    rw [if_neg (by decide)]
    refine wpAny_bind (slicePart_none (wpAny_bind (slicePart_none (wpAny_bind (wpAny_pure ?_)))))
    show wpAny _ _ (match Builtin.Slice.sliceAdjust none none (-1) (items.size : Int) with | (lo, hi) => pure (lo, (-1 : Int), Builtin.Slice.slicePlaces lo hi (-1))) _ _ s
    rw [rev_adjust]
    show wpAny _ _ (pure ((items.size : Int) - 1, (-1 : Int), Builtin.Slice.slicePlaces ((items.size : Int) - 1) (-1) (-1))) _ _ s
    rw [rev_places]
    exact wpAny_pure h
  refine wpAny_bind (ap ?_)
  have hno : ¬ ((((items.size : Int) - 1) == 0 && (-1 : Int) == 1 && items.size == items.size) = true) := by
    intro q
    rw [Bool.and_eq_true, Bool.and_eq_true] at q
    exact absurd q.1.2 (by decide)
  show wpAny _ _ (if ((((items.size : Int) - 1) == 0 && (-1 : Int) == 1 && items.size == items.size) = true) then _ else _) _ _ s
  rw [if_neg hno, rev_pick]
  first
    | exact wpAny_bind (m := Builtin.Tuple.tupleExact _) (wpAny_newObj_type (wpAny_pure ⟨_, rfl, wpAny_pure h⟩) htake)
    | exact wpAny_bind (m := Builtin.Tuple.tupleExact _) (wpAny_newObj_type (wpAny_bind (wpAny_pure (wpAny_pure ⟨_, rfl, wpAny_pure h⟩))) htake)
    | exact wpAny_bind (wpAny_bind (m := Builtin.Tuple.tupleExact _) (wpAny_newObj_type (wpAny_pure (wpAny_pure ⟨_, rfl, wpAny_pure h⟩)) htake))
    | exact wpAny_bind (wpAny_bind (m := Builtin.Tuple.tupleExact _) (wpAny_newObj_type (wpAny_pure ⟨_, rfl, wpAny_pure h⟩) htake))
/-! the reading -/
def revD : D → Option D
  | .tuple xs => some (.tuple xs.reverse)
  | .list xs => some (.list xs.reverse)
  | _ => none
def eRev (f : Ex) : Ex := fun ρ S => (f ρ S).bind fun v S1 => ofO ((lookR S1 v).bind revD) S1
section
variable {X : Cx} {W : WX}
def tRevT (K : PySem.W.Frag) (te : TE) : TE := fun σ H Q => te σ H fun x H1 => ∃ a xs, x = .ref a ∧ SqT K H1 a xs ∧ ∀ p, H1 p = none → Q (.ref p) (upd H1 p (.tup xs.reverse))
theorem pe_revT {e : Expr} {te : TE} {k : Nat} {p1 p2 p3 pos : Pos} (he : PE X e te) : PE X (.Subscript e (.Slice none none (some (.UnaryOp .USub (.Constant (.int 1) k p1) p2)) p3) pos) (tRevT X.K te) := by
  refine ⟨fun pins s σ H Q I h => ?_⟩
  refine Subscript_ (thn (he.run pins s σ H _ I h) fun v s1 ⟨x, H1, I1, r1, q1⟩ => ?_)
  obtain ⟨a, xs, ex, hx, q⟩ := q1
  subst ex
  cases r1
  have hst : PO X (some (.UnaryOp .USub (.Constant (.int 1) k p1) p2)) (tPart (tUn (rU fun i => .int (-i)) (tC (.int 1)))) := po_some (pe_un un_neg pe_int)
  refine wpAny_Slice (thn (po_none.run pins s1 σ H1 (fun o H2 => o = none ∧ H2 = H1) I1 ⟨rfl, rfl⟩) fun vl s2 ⟨l, H2, I2, pl, el, e2⟩ => ?_)
  subst el e2
  refine thn (po_none.run pins s2 σ H2 (fun o H3 => o = none ∧ H3 = H2) I2 ⟨rfl, rfl⟩) fun vu s3 ⟨u, H3, I3, pu, eu, e3⟩ => ?_
  subst eu e3
  refine thn (hst.run pins s3 σ H3 (fun o H4 => o = some (-1) ∧ H4 = H3) I3 ⟨1, rfl, -1, rfl, rfl, rfl⟩) fun vs s4 ⟨o, H4, I4, ps, eo, e4⟩ => ?_
  subst eo e4
  cases pl
  cases pu
  have I5 : Inv X pins σ H4 { s4 with heap := s4.heap.push { cls := .type "slice", data := .fields #[.none, .none, vs] } } := I4.kept (t' := s4.toks) fun b ob q => Heap.get?_push_of_some _ q
  obtain ⟨its, r, ht, hz⟩ := I5.tuple hx
  have hlen := r.length
  show wpAny (model X.prog X.w) X.A (subscriptTail e (.Slice none none (some (.UnaryOp .USub (.Constant (.int 1) k p1) p2)) p3) (.ref a) (.ref s4.heap.objs.size)) (EP X pins σ Q) X.xe { s4 with heap := s4.heap.push { cls := .type "slice", data := .fields #[.none, .none, vs] } }
  refine tail_any (ops := [.ref a, .ref s4.heap.objs.size]) ht.typeIs (PyProof.Rows.slot_tuple_getitem.lookup) ?_ (by with_unfolding_all rfl)
  refine getItem_tuple_rev ht (Heap.IsSliceOf.new _ .none .none vs) ps ?_ (by rw [List.size_toArray]; omega)
  refine ⟨.ref _, _, I5.laid (t' := s4.toks) (o := .tup xs.reverse) (fun b ob q => Heap.get?_push_of_some _ q) (Nat.le_refl _) ?_, rfl, q _ (I5.hok.fresh (Nat.le_refl _))⟩
  exact ⟨by rw [List.length_reverse]; exact hz, _, r.reverse, IsTup.new _ _⟩
theorem se_rev {e : Expr} {f : Ex} {k : Nat} {p1 p2 p3 pos : Pos} (h : SE X W e f) : SE X W (.Subscript e (.Slice none none (some (.UnaryOp .USub (.Constant (.int 1) k p1) p2)) p3) pos) (eRev f) :=
  PE.imp (PE.or (pe_revL h) (pe_revT h)) fun σ H Q ⟨c, ρ, S, hr, he, q⟩ => by
    have q := Aft.bind hr q
    cases e1 : f ρ S with
    | exc x S' => exact .inl ⟨c, ρ, S, hr, he, by rw [e1] at q ⊢; exact q⟩
    | bad => rw [e1] at q; exact q.elim
    | ok v S1 =>
      rw [e1] at q
      cases e2 : lookR S1 v with
      | none => exact .inl ⟨c, ρ, S, hr, he, by rw [e1]; intro c1 H1 x1; have := q c1 H1 x1; simp only [e2] at this; exact this.elim⟩
      | some d =>
        cases e3 : revD d with
        | none => exact .inl ⟨c, ρ, S, hr, he, by rw [e1]; intro c1 H1 x1; have := q c1 H1 x1; simp only [e2, e3, Option.bind] at this; exact this.elim⟩
        | some r =>
          have q' : ∀ c1 H1, Nx c S H c1 S1 H1 → ∀ c' H', Nx c1 S1 H1 c' S1 H' → ∀ u, Rep c'.A H' r u → Q u H' := fun c1 H1 x1 c' H' x2 u hu => by
            have := q c1 H1 x1
            simp only [e2, e3, Option.bind] at this
            exact this c' H' x2 u hu
          unfold revD at e3
          split at e3
          · cases e3
            refine .inr ⟨c, ρ, S, hr, he, ?_⟩
            rw [e1]
            intro c1 H1 x1 u hu
            obtain ⟨a, vs, rfl, g1, g2, g3⟩ := ((lookR_rep x1.rel hu e2).plain (fun _ z => by cases z)).tup
            exact ⟨a, vs, rfl, SqT.of g1, fun p hp => q' c1 H1 x1 c1 _ (Nx.new x1.rel hp) _ (Rep.newTup x1.rel hp g3.reverse (by rw [List.length_reverse]; exact g2))⟩
          · cases e3
            refine .inl ⟨c, ρ, S, hr, he, ?_⟩
            rw [e1]
            intro c1 H1 x1 u hu
            obtain ⟨a, vs, rfl, g1, g2, g3⟩ := (lookR_rep x1.rel hu e2).list
            exact ⟨a, vs, rfl, g1, fun p hp => q' c1 H1 x1 c1 _ (Nx.new x1.rel hp) _ (Rep.newLst x1.rel hp g3.reverse (by rw [List.length_reverse]; exact g2))⟩
          · cases e3
/-! ### len(set(xs)) of ints -/
def distinct (ns : List Int) : List Int := ns.foldl step_dedup []
theorem firstMet_all (ns : List Int) : PyProof.Rows.firstMet (fun i => ns.getD i 0) ns.length = distinct ns := by
  unfold PyProof.Rows.firstMet distinct
  have : (List.range ns.length).map (fun i => ns.getD i 0) = ns := by
    apply List.ext_getElem?
    intro i
    by_cases h : i < ns.length
    · rw [List.getElem?_map, List.getElem?_range h, List.getElem?_eq_getElem h]
      show some (ns.getD i 0) = _
      rw [List.getD_eq_getElem?_getD, List.getElem?_eq_getElem h]; rfl
    · rw [List.getElem?_eq_none (by simp; omega), List.getElem?_eq_none (by omega)]
  rw [this]
def tLenSet (K : PySem.W.Frag) (ta : TE) : TE := fun σ H Q => ta σ H fun x H1 => ∃ (l : Addr) (ns : List Int), x = .ref l ∧ SqL K H1 l (ns.map V.int) ∧ ns.length ≤ 4000 ∧ Q (.int ((distinct ns).length : Nat)) H1
theorem pe_lenSet {a : Expr} {ta : TE} {p p2 q pos : Pos} (hg : Gl X "len") (hm : X.mg "len" = none) (hg2 : Gl X "set") (hm2 : X.mg "set" = none) (ha : PE X a ta) (hc : X.calm = true := by rfl)
    (na : starEach [a] X.env = (false, eval a X.env) :: starEach [] X.env := by rfl) : PE X (.Call (.Name "len" p) [.Call (.Name "set" p2) [a] [] q] [] pos) (tLenSet X.K ta) := by
  refine ⟨fun pins s σ H Q I h => ?_⟩
  refine Call_ (ld_blt I hg hm boot_len ?_)
  refine PyProof.Rows.callWith_builtin1 (PyProof.Rows.args_cons ?_ rfl) rfl rfl
  refine Call_ (ld_blt I hg2 hm2 boot_set ?_)
  refine PyProof.Rows.callWith_type1 (PyProof.Rows.args_cons (thn (ha.run pins s σ H _ I h) fun v s1 ⟨x, H1, I1, r1, q1⟩ => PyProof.Rows.args_nil ?_) na) na rfl
  obtain ⟨l, ns, rfl, hq, hl, q1⟩ := q1
  cases r1
  obtain ⟨its, r, pl, hz⟩ := I1.list hq
  have hlen : its.toArray.size = ns.length := by rw [List.size_toArray, ← r.length, List.length_map]
  refine call_set_list (I1.ok.hd hc) pl.isList (by simpa using RZ.intsAre_vals r) (by rw [hlen]; unfold scanBound; omega) fun h' tk hS hk => ?_
  refine PyProof.Rows.args_nil ?_
  have hle := PyProof.Rows.firstMet_length_le (fun i => ns.getD i 0) ns.length
  rw [hlen, firstMet_all] at hS
  rw [firstMet_all] at hle
  obtain ⟨o, es, ep, t, ho, hex, hd, _, _, _, hf, hn⟩ := hS
  have I2 : Inv X pins σ H1 { s1 with heap := h', toks := tk } := I1.kept fun b o e => hk b o (Heap.lt_size e) e
  exact call_len_set ho hex hd hf (by rw [hn] <;> omega) ⟨.int (distinct ns).length, H1, I2.tok _, ⟨_, by rw [hn]⟩, q1⟩
def eLenSet (f : Ex) : Ex := fun ρ S => (f ρ S).bind fun v S1 => match (lookR S1 v) with
  | some (.list xs) => match intsOf xs with
    | some ns => if ns.length ≤ 4000 then .ok (.d (.int ((distinct ns).length : Nat))) S1 else .bad
    | none => .bad
  | _ => .bad
theorem se_lenSet {a : Expr} {f : Ex} {p p2 q pos : Pos} (hg : Gl X "len") (hm : X.mg "len" = none) (hg2 : Gl X "set") (hm2 : X.mg "set" = none) (ha : SE X W a f) (hc : X.calm = true := by rfl)
    (na : starEach [a] X.env = (false, eval a X.env) :: starEach [] X.env := by rfl) : SE X W (.Call (.Name "len" p) [.Call (.Name "set" p2) [a] [] q] [] pos) (eLenSet f) :=
  PE.imp (pe_lenSet hg hm hg2 hm2 ha hc na) fun σ H Q ⟨c, ρ, S, hr, he, q⟩ => by
    refine ⟨c, ρ, S, hr, he, (Aft.bind hr q).mono fun v c1 S1 H1 x1 h1 u hu => ?_⟩
    split at h1
    · rename_i xs e
      split at h1
      · rename_i ns e2
        split at h1
        · rename_i hl
          obtain ⟨a, vs, rfl, g1, g2, g3⟩ := (lookR_rep x1.rel hu e).list
          rw [intsOf_rep g3 e2] at g1
          exact ⟨a, ns, rfl, g1, hl, h1 c1 H1 (Nx.refl x1.rel) _ (.int _)⟩
        · exact h1.elim
      · exact h1.elim
    · exact h1.elim
end
end DL

namespace DL
open PySem PySem.Spec PyProof.Rows L2
/-! ### the end -/
def spLaw (K : PySem.W.Frag) : Sp := fun vs H Q _ => ∃ (a : Addr) (ns : List Int), vs = [.ref a] ∧ SqL K H a (ns.map V.int) ∧ ns.length ≤ 63 ∧ ∀ H', Q (.bl true) H'
/-- what is left to be shown of the law in plain Lean -/
def LawTrue (F : Fn) : Prop := ∀ ns : List Int, ns.length ≤ 63 → ∃ S, F [.scr (ns.map .int)] [] = .ok (.d (.bool true)) S
theorem rep_ints {A : Addr → Prop} {H : Hp} : ∀ ns : List Int, RepL A H (ns.map .int) (ns.map V.int)
  | [] => .nil
  | n :: ns => .cons (.int n) (rep_ints ns)
theorem law_fn {P : Program} {w : World} {K : PySem.W.Frag} {mg : Str → Option Value} {base : Heap} {CX : CXT} {k : Nat} {f : Addr} {fd : FuncData} {ps : List Str} {F : Fn} (h : LawTrue F) (G : FnOk P w K mg base CX k f fd ps (spG K mg 1 F)) : FnOk P w K mg base CX k f fd ps (spLaw K) := by
  refine G.imp fun vs H Q E ⟨a, ns, e, hS, hl, q⟩ => ?_
  subst e
  obtain ⟨S, hF⟩ := h ns hl
  have hz : (ns.map V.int).length ≤ sizeLine := by rw [List.length_map, sizeLine_eq]; omega
  refine ⟨⟨[], fun _ => False⟩, [], [.scr (ns.map .int)], ⟨rfl, fun n _ a _ _ h => by simp at h, fun n a o h => by simp at h, fun _ z => z.elim, fun _ _ _ z => z⟩, .cons ⟨a, _, rfl, ?_, hz, rep_ints ns⟩ .nil, rfl, ?_⟩
  · rcases hS with hS | hS
    · exact .inl ⟨fun z => z, hS⟩
    · exact .inr fun H' => .inr hS
  · rw [hF]
    intro c' H' u x hu
    cases hu
    exact q H'
theorem walk_law {l : PySem.W.OpenLaw} {q : Program} {loose : List Str} {XP : (Str → Option Value) → Heap → Prop} {YP : World → Heap → Prop} {d : DefRec} {K : Params → PySem.W.Frag} {k : Nat} {x : Str} (hn : l.most = some 63) (hdf : d.params.defaults = []) (hr : Room k callerA)
    (hY : ∀ (w : World) (h : Heap), YP w h → (K w.params).In h)
    (F : ∀ (w : World) (mg : Str → Option Value) (fa : Addr) (h : Heap), (K w.params).In h → h.Ns mainGlobals mg → mg d.name = some (.ref fa) →
      ∃ fd : FuncData, (∀ (s : Shared) (u : Value), BindsTo s fd ⟨[u], []⟩ [(x, u)]) ∧ ∀ base : Heap, (K w.params).In base → base.Ns mainGlobals mg → FnOk l.prog w (K w.params) mg base (L2.CX l.prog w) k fa fd [x] (spLaw (K w.params))) :
    PySem.W.WalkO q loose XP YP l.row.toRowW d [] (fun f vs => PySem.call f vs) :=
  L2.walk_of (n := 63) (k := k) (x := x) (CX := fun w => L2.CX l.prog w) (sp := fun w => spLaw (K w.params)) hn (by decide) hdf hr hY F (fun _ _ a ns hl _ hS => ⟨a, ns, rfl, hS, hl, fun _ => rfl⟩) fun _ _ _ _ _ z => by
    obtain ⟨_, _, _, _, _, _, _, _, _, _, _, _, z⟩ := z
    exact z
/-! ### classes in except clauses -/
def mTab (tab : List (Str × Bool)) : Str → Option Bool := fun y => tab.lookup y
theorem mTab_ok {K : PySem.W.Frag} {mg : Str → Option Value} {cv : Value} : ∀ {tab : List (Str × Bool)}, (∀ p ∈ tab, ∀ C, mg p.1 = some (.ref C) → PySem.W.exmOne K (.ref C) cv = some p.2) → ∀ y b C, mTab tab y = some b → mg y = some (.ref C) → PySem.W.exmOne K (.ref C) cv = some b
  | [], _, y, b, C, h, _ => by cases h
  | (x, k) :: tab, H, y, b, C, h, hm => by
    unfold mTab at h
    rw [List.lookup_cons] at h
    by_cases e : (y == x) = true
    · rw [e] at h
      cases h
      have e' : y = x := eq_of_beq e
      subst e'
      exact H (y, k) List.mem_cons_self C hm
    · have e' : (y == x) = false := by simpa using e
      rw [e'] at h
      exact mTab_ok (tab := tab) (fun p hp => H p (List.mem_cons_of_mem _ hp)) y b C h hm
theorem tab_one {K : PySem.W.Frag} {mg : Str → Option Value} {cv : Value} {x : Str} {b : Bool} {C0 : Addr} (hg : mg x = some (.ref C0)) (h : PySem.W.exmOne K (.ref C0) cv = some b) {tab : List (Str × Bool)} (ht : ∀ p ∈ tab, ∀ C, mg p.1 = some (.ref C) → PySem.W.exmOne K (.ref C) cv = some p.2) :
    ∀ p ∈ (x, b) :: tab, ∀ C, mg p.1 = some (.ref C) → PySem.W.exmOne K (.ref C) cv = some p.2 := fun p hp C hc => by
  rcases List.mem_cons.mp hp with rfl | hp
  · rw [hg] at hc; cases hc; exact h
  · exact ht p hp C hc
theorem tab_nil {K : PySem.W.Frag} {mg : Str → Option Value} {cv : Value} : ∀ p ∈ ([] : List (Str × Bool)), ∀ C, mg p.1 = some (.ref C) → PySem.W.exmOne K (.ref C) cv = some p.2 := fun p hp => by cases hp
theorem exm_sub {K : PySem.W.Frag} {S C : Addr} {b : Bool} (h1 : PySem.W.subIn K (.ref S) (.type "BaseException") = some true) (h2 : PySem.W.isClsIn K S = true) (h3 : PySem.W.typeIn K (.ref S) = some (.type "type")) (h4 : PySem.W.subIn K (.ref C) (.ref S) = some b) :
    PySem.W.exmOne K (.ref C) (.ref S) = some b := by
  have e1 : (PySem.W.subIn K (.ref S) (.type "BaseException") == some true) = true := by rw [h1] <;> rfl
  have e2 : ((PySem.W.clsIn K S).isSome && PySem.W.typeIn K (.ref S) == some (.type "type")) = true := by
    have h2' : (PySem.W.clsIn K S).isSome = true := h2
    rw [h2', h3] <;> rfl
  show (if (PySem.W.subIn K (.ref S) (.type "BaseException") == some true) = true then (if ((PySem.W.clsIn K S).isSome && PySem.W.typeIn K (.ref S) == some (.type "type")) = true then PySem.W.subIn K (.ref C) (.ref S) else none) else none) = some b
  rw [if_pos e1, if_pos e2]
  exact h4
/-- what the top has written of an own error class -/
structure ExcT (K : PySem.W.Frag) (mg : Str → Option Value) (x : Str) (C : Addr) : Prop where
  g : mg x = some (.ref C)
  x : PySem.W.excIn K C [.type "ValueError", .type "Exception", .type "BaseException", .type "object"] "ValueError.__new__" = true
  k : PySem.W.keepIn K (.ref C) = true
  b : PySem.W.subIn K (.ref C) (.type "BaseException") = some true
  t : PySem.W.typeIn K (.ref C) = some (.type "type")
  i : PySem.W.isClsIn K C = true
theorem ss_raiseT {X : Cx} {W : WX} {pos : Pos} {C : Addr} {x m : Str} {j : Nat} {p p2 p3 : Pos} (T : ExcT X.K X.mg x C) (hc : X.calm = true) (tk : Takes X W) (hg : Gl X x) (hdb : (x == ("__debug__" : Str)) = false := by decide) :
    SS X W (.Raise (some (.Call (.Name x p) [.Constant (.str m) j p2] [] p3)) none pos) (sRaise ⟨x⟩) :=
  ss_raise hc tk T.g (pmk_own PySem.F.excBase_ValueError T.x T.g T.k (raises_own T.b T.t) hg hdb)
/-! ### small things -/
def fuelW : Nat := 100000
theorem sts_nil {X : Cx} : PTs X [] (tT X.K X.mg W0 tYesE) := ⟨fun pins s σ H Q I ⟨c, ρ, S, hr, he, q⟩ => pts_nil.run pins s σ H Q I (q c H (Nx.refl hr))⟩
theorem sts_one {X : Cx} {e : Expr} {t : Te} (h : ST X W0 e t) : PTs X [e] (tT X.K X.mg W0 t) := pts_one h
def addI (i j : Int) : Int := i + j
def subI (i j : Int) : Int := i - j
/-- x += e of ints -/
def sAug (i : Nat) (p : Int → Int → Int) (f : Ex) : Blk := fun ρ S => match ρ[i]? with
  | some (some (.d (.int k))) => (f ρ S).st ρ fun v S1 => match v with
    | .d (.int j) => .ok (.nx (ρ.set i (some (.d (.int (p k j)))))) S1
    | _ => .bad
  | _ => .bad
theorem ss_aug {X : Cx} {W : WX} {st : Stmt} {i : Nat} {p : Int → Int → Int} {f : Ex} (h : PS X st (tAug i (tE X.K X.mg W f) (ipI p))) : SS X W st (sAug i p f) := PS.imp h fun D σ H ⟨c, ρ, S, hr, he, q⟩ => by
  unfold sAug at q
  split at q
  · rename_i k e1
    obtain ⟨u, g1, g2⟩ := he.at' i _ e1
    cases g2
    refine ⟨_, g1, c, ρ, S, hr, he, (Aft.st hr he q).mono fun v c1 S1 H1 x1 h1 u hu => ?_⟩
    split at h1
    · cases hu
      exact ⟨_, _, rfl, rfl, h1 c1 _ H1 (Nx.refl x1.rel) ((he.keep hr x1).set (v := .d (.int _)) (u := .int _) (.int _) i)⟩
    · exact h1.elim
  · exact q.elim
theorem bt_len : bootBuiltins "len" = some (.builtin "len") := by decide +kernel
theorem bt_all : bootBuiltins "all" = some (.builtin "all") := by decide +kernel
theorem bt_any : bootBuiltins "any" = some (.builtin "any") := by decide +kernel
theorem bt_sum : bootBuiltins "sum" = some (.builtin "sum") := by decide +kernel
theorem bt_abs : bootBuiltins "abs" = some (.builtin "abs") := by decide +kernel
theorem bt_min : bootBuiltins "min" = some (.builtin "min") := by decide +kernel
theorem bt_max : bootBuiltins "max" = some (.builtin "max") := by decide +kernel
theorem bt_divmod : bootBuiltins "divmod" = some (.builtin "divmod") := by decide +kernel
theorem bt_isinstance : bootBuiltins "isinstance" = some (.builtin "isinstance") := by decide +kernel
theorem bt_sorted : bootBuiltins "sorted" = some (.builtin "sorted") := by decide +kernel
theorem bt_int : bootBuiltins "int" = some (.type "int") := by decide +kernel
theorem bt_str : bootBuiltins "str" = some (.type "str") := by decide +kernel
theorem bt_tuple : bootBuiltins "tuple" = some (.type "tuple") := by decide +kernel
theorem bt_list : bootBuiltins "list" = some (.type "list") := by decide +kernel
theorem bt_bool : bootBuiltins "bool" = some (.type "bool") := by decide +kernel
theorem bt_set : bootBuiltins "set" = some (.type "set") := by decide +kernel
theorem bt_dict : bootBuiltins "dict" = some (.type "dict") := by decide +kernel
theorem bt_range : bootBuiltins "range" = some (.type "range") := by decide +kernel
theorem bt_enumerate : bootBuiltins "enumerate" = some (.type "enumerate") := by decide +kernel
theorem bt_zip : bootBuiltins "zip" = some (.type "zip") := by decide +kernel
end DL

namespace DL
open PySem PySem.Spec PyProof.Rows L2
/-! ### a comprehension whose list is changed later -/
theorem Nx.adopt {c1 c' : Cor Ω} {S1 Sf : Sto} {H1 H : Hp} {p : Addr} {o : HO} {q : O} (hr : Rel c1 S1 H1) (hp : H1 p = none) (x : Nx (lockC c1 p) S1 (upd H1 p o) c' Sf H) (nl : ¬ live c' Sf p) (hA : c'.A p) (ob : ORep c' H p q) :
    Nx c1 S1 H1 ⟨c'.m ++ [p], c'.A⟩ (Sf ++ [some q]) H := by
  have sp : ∀ {α : Type} (l : List α) (z : α) (n : Nat) (b : α), (l ++ [z])[n]? = some b → (l[n]? = some b ∧ n < l.length) ∨ (n = l.length ∧ z = b) := fun l z n b h => by
    rcases Nat.lt_trichotomy n l.length with q | q | q
    · rw [List.getElem?_append_left q] at h; exact .inl ⟨h, q⟩
    · subst q; simp at h; exact .inr ⟨rfl, h⟩
    · rw [List.getElem?_eq_none (by simp; omega)] at h; cases h
  have hlen := x.rel.len
  have two : ∀ (n : Nat) (a : Addr) (q' : O), (c'.m ++ [p])[n]? = some a → (Sf ++ [some q])[n]? = some (some q') → (c'.m[n]? = some a ∧ Sf[n]? = some (some q') ∧ a ≠ p) ∨ (n = c'.m.length ∧ a = p ∧ q' = q) := fun n a q' h1 h2 => by
    rcases sp _ _ _ _ h1 with ⟨h1, l1⟩ | ⟨l1, e1⟩
    · rcases sp _ _ _ _ h2 with ⟨h2, _⟩ | ⟨l2, _⟩
      · exact .inl ⟨h1, h2, fun e => nl ⟨n, q', by rw [← e]; exact h1, h2⟩⟩
      · omega
    · rcases sp _ _ _ _ h2 with ⟨_, l2⟩ | ⟨_, e2⟩
      · omega
      · exact .inr ⟨l1, e1.symm, (Option.some.inj e2).symm⟩
  refine ⟨x.pre.trans (List.prefix_append _ _), fun a h => ?_, fun a h l => x.lock a (.inl h) l, ⟨by simp [hlen], fun n n' a o1 o2 h1 h2 h3 h4 => ?_, fun n a q' h1 h2 => ?_, x.rel.tr, x.rel.nt⟩, fun a q' h l => x.fr a q' (by rw [upd_ne (ne_of_none h hp)]; exact h) l, fun a h => ?_⟩
  · rcases x.grow a h with (z | z) | z
    · exact .inl z
    · subst z; exact .inr hp
    · by_cases e : a = p
      · subst e; exact .inr hp
      · rw [upd_ne e] at z; exact .inr z
  · rcases two n a o1 h1 h3 with ⟨g1, g2, g3⟩ | ⟨g1, g2, g3⟩ <;> rcases two n' a o2 h2 h4 with ⟨k1, k2, k3⟩ | ⟨k1, k2, k3⟩
    · exact x.rel.inj n n' a o1 o2 g1 k1 g2 k2
    · exact absurd k2 g3
    · exact absurd g2 k3
    · omega
  · rcases two n a q' h1 h2 with ⟨g1, g2, g3⟩ | ⟨g1, rfl, rfl⟩
    · obtain ⟨z1, z2⟩ := x.rel.ob n a q' g1 g2
      exact ⟨z1, by cases q' <;> exact z2⟩
    · exact ⟨hA, by cases q' <;> exact ob⟩
  · obtain ⟨n, q', h1, h2⟩ := h
    rcases two n a q' h1 h2 with ⟨g1, g2, g3⟩ | ⟨g1, rfl, rfl⟩
    · rcases x.lv a ⟨n, q', g1, g2⟩ with z | z
      · exact .inl z
      · rw [upd_ne g3] at z; exact .inr z
    · exact .inr hp
def eLcN (fi : Iy) (vs : List Nat) (tg : Tg) (tt : Te) (fe : Ex) : Ex := fun ρ S => (fi ρ S).bind fun ds S1 => match compL (item vs tg tt fe ρ) ds S1 with
  | .ok r S2 => .ok (.loc S2.length) (S2 ++ [some (.lst r)])
  | _ => .bad
section
variable {mg : Str → Option Value} {W : WX}
theorem eLcM_r {fi : Iy} {vs : List Nat} {tg : Tg} {tt : Te} {fe : Ex} {σ : L2.St} {H : Hp} {Q : VK} (h : tE Ω mg W (eLcN fi vs tg tt fe) σ H Q) : tLc (tI Ω mg W fi) (tGw Ω vs tg) (tT Ω mg W0 tt) (tE Ω mg W0 fe) vs σ H Q := by
  obtain ⟨c, ρ, S, hr, he, q⟩ := h
  refine ⟨c, ρ, S, hr, he, (Aft.bind hr q).mono fun ds c1 S1 H1 x1 h1 J wd => ?_⟩
  cases e : compL (item vs tg tt fe ρ) ds S1 with
  | bad => rw [e] at h1; exact h1.elim
  | exc x S' => exact (compL_noexc (fun d S x S' => item_noexc x S') ds S1 x S' e).elim
  | ok total Sf =>
    rw [e] at h1
    refine lc_run x1.rel (he.keep hr x1) wd e fun p c' H us hp x h2 h3 h4 h5 h6 => ?_
    have y := Nx.adopt (q := .lst total) x1.rel hp x h5 h6 ⟨us, h2, h4, h3⟩
    refine h1 _ H y _ ⟨p, ?_, rfl⟩
    rw [← x.rel.len]; simp
theorem se_lcM {X : Cx} {e : Expr} {fi : Iy} {vs : List Nat} {tg : Tg} {tt : Te} {fe : Ex} (h : PE X e (tLc (tI X.K X.mg W fi) (tGw X.K vs tg) (tT X.K X.mg W0 tt) (tE X.K X.mg W0 fe) vs)) : SE X W e (eLcN fi vs tg tt fe) := PE.imp h fun σ H Q q => eLcM_r q
theorem ss_setLcM {X : Cx} {st : Stmt} {i : Nat} {fi : Iy} {vs : List Nat} {tg : Tg} {tt : Te} {fe : Ex} (h : PS X st (tAsg (tLc (tI X.K X.mg W fi) (tGw X.K vs tg) (tT X.K X.mg W0 tt) (tE X.K X.mg W0 fe) vs) (gName i))) : SS X W st (sSet i (eLcN fi vs tg tt fe)) :=
  PS.imp h fun D σ H ⟨c, ρ, S, hr, he, q⟩ => eLcM_r ⟨c, ρ, S, hr, he, (Aft.st hr he q).mono fun v c1 S1 H1 x1 h1 u hu => h1 c1 _ H1 (Nx.refl x1.rel) ((he.keep hr x1).set hu i)⟩
end
/-! ### an expression that makes a new list -/
/-- the new list's items -/
def newL (o : Option D) (S : Sto) : R Val := match o with
  | some (.list ds) => .ok (.loc S.length) (S ++ [some (.lst ds)])
  | _ => .bad
def eCatM (fa fb : Ex) : Ex := fun ρ S => (fa ρ S).bind fun v S1 => (fb ρ S1).bind fun w S2 => newL ((look S2 v).bind fun x => (look S2 w).bind fun y => match x, y with
  | .list xs, .list ys => if xs.length + ys.length ≤ sizeLine then some (.list (xs ++ ys)) else none
  | _, _ => none) S2
theorem newL_r {mg : Str → Option Value} {W : WX} {c : Cor Ω} {S : Sto} {H : Hp} {σ : L2.St} {Q : VK} {ds : List D} {us : List V} (hr : Rel c S H) (r : RepL c.A H ds us) (hz : us.length ≤ sizeLine) (h : Aft mg W c S σ H (newL (some (.list ds)) S) fun v c' _ H' => ∀ u, VRep c' H' v u → Q u H') :
    ∀ p, H p = none → Q (.ref p) (upd H p (.lst us)) := fun p hp => by
  refine h _ _ (Nx.make (ho := .lst us) (o := .lst ds) hr hp (fun _ z => by cases z) ⟨us, upd_same, hz, RepL.keep (make_kp hr hp) _ _ r⟩) _ ⟨p, ?_, rfl⟩
  rw [← hr.len]; simp
theorem se_catM {X : Cx} {W : WX} {a b : Expr} {fa fb : Ex} {pos : Pos} (ha : SE X W a fa) (hb : SE X W b fb) : SE X W (.BinOp a .Add b pos) (eCatM fa fb) :=
  PE.imp (pe_op op_cat ha hb) fun σ H Q ⟨c, ρ, S, hr, he, q⟩ => two hr he q fun v w c2 S2 H2 x y x1 hv hw h => by
    have hr2 := x1.rel
    cases e1 : look S2 v with
    | none => simp only [e1, Option.bind, newL] at h; exact h.elim
    | some d =>
      cases e2 : look S2 w with
      | none => simp only [e1, e2, Option.bind, newL] at h; exact h.elim
      | some e =>
        simp only [e1, e2, Option.bind] at h
        split at h
        · rename_i xs ys
          split at h
          · rename_i hl
            obtain ⟨a, vs, rfl, g1, g2, g3⟩ := (look_rep hr2 hv e1).list
            obtain ⟨b, us, rfl, k1, k2, k3⟩ := (look_rep hr2 hw e2).list
            have hl' : vs.length + us.length ≤ sizeLine := by rw [← g3.length, ← k3.length]; exact hl
            exact ⟨a, b, vs, us, rfl, rfl, g1, k1, hl', newL_r hr2 (g3.append k3) (by rw [List.length_append]; exact hl') h⟩
          · simp only [newL] at h; exact h.elim
        · simp only [newL] at h; exact h.elim
/-! ### list(x) as a new list that is changed later -/
def eNewOf (f : Ex) : Ex := fun ρ S => (f ρ S).bind fun v S1 => newL ((lookR S1 v).bind fun x => listD [x]) S1
theorem eNewOf_r {mg : Str → Option Value} {W : WX} {K : PySem.W.Frag} {f : Ex} {σ : L2.St} {H : Hp} {Q : VK} (h : tE K mg W (eNewOf f) σ H Q) :
    tE K mg W f σ H fun x H1 => ∃ p ys, x = .ref p ∧ (SqL K H1 p ys ∨ SqT K H1 p ys) ∧ ∀ l, H1 l = none → Q (.ref l) (upd H1 l (.lst ys)) := by
  obtain ⟨c, ρ, S, hr, he, q⟩ := h
  refine ⟨c, ρ, S, hr, he, (Aft.bind hr q).mono fun v c1 S1 H1 x1 h1 u hu => ?_⟩
  cases e1 : lookR S1 v with
  | none => simp only [e1, Option.bind, newL] at h1; exact h1.elim
  | some d =>
    simp only [e1, Option.bind] at h1
    have hd := lookR_rep x1.rel hu e1
    cases d with
    | list xs =>
      simp only [listD] at h1
      obtain ⟨a, vs, rfl, g2, g3, g4⟩ := hd.list
      exact ⟨a, vs, rfl, .inl g2, newL_r x1.rel g4 g3 h1⟩
    | tuple xs =>
      simp only [listD] at h1
      obtain ⟨a, vs, rfl, g2, g3, g4⟩ := (hd.plain (fun _ z => by cases z)).tup
      exact ⟨a, vs, rfl, .inr (SqT.of g2), newL_r x1.rel g4 g3 h1⟩
    | none => simp only [listD, newL] at h1; exact h1.elim
    | bool _ => simp only [listD, newL] at h1; exact h1.elim
    | int _ => simp only [listD, newL] at h1; exact h1.elim
    | str _ => simp only [listD, newL] at h1; exact h1.elim
    | dict _ => simp only [listD, newL] at h1; exact h1.elim
theorem se_newOf {X : Cx} {W : WX} {e : Expr} {f : Ex} {p pos : Pos} (ha : SE X W e f) (hg : Gl X "list") (hm : X.mg "list" = none) (hv : bootBuiltins "list" = some (.type "list"))
    (he : starEach [e] X.env = (false, eval e X.env) :: starEach [] X.env := by rfl) (hpl : (backTo pos (starEach [] X.env)).any (·.1) = false := by rfl) :
    SE X W (.Call (.Name "list" p) [e] [] pos) (eNewOf f) :=
  PE.imp (pe_callTy call_list_of hg hm hv (pa_cons ha pa_nil he) (by decide) (by decide) he hpl) fun σ H Q h => by
    obtain ⟨c, ρ, S, hr, he, q⟩ := eNewOf_r h
    refine ⟨c, ρ, S, hr, he, q.mono fun v c1 S1 H1 x1 h1 u hu => ?_⟩
    obtain ⟨a, ys, rfl, z1, z2⟩ := h1 u hu
    exact ⟨a, ys, rfl, z1, z2⟩
/-! ### xs.insert(i, y) -/
def insL (v i w : Val) (S : Sto) : R Val := match v, i, w with
  | .loc n, .d (.int i), .d x => match S[n]? with
    | some (some (.lst ds)) => if ds.length < sizeLine ∧ 0 ≤ i ∧ i < 4611686018427387904 then .ok (.d .none) (S.set n (some (.lst (ds.take i.toNat ++ [x] ++ ds.drop i.toNat)))) else .bad
    | _ => .bad
  | _, _, _ => .bad
def eIns (fo fi fe : Ex) : Ex := fun ρ S => (fo ρ S).bind fun v S1 => match isLst S1 v with
  | true => (fi ρ S1).bind fun i S2 => (fe ρ S2).bind fun w S3 => insL v i w S3
  | false => .bad
theorem se_ins {X : Cx} {W : WX} {pos : Pos} {o i e : Expr} {fo fi fe : Ex} {apos : Pos} (ho : SE X W o fo) (hi : SE X W i fi) (he : SE X W e fe) (hbase : attributeBase o "insert" X.env (eval o X.env) = eval o X.env := by rfl)
    (hfew : ((backTo pos (starEach [i, e] X.env)).all (fun x => !x.1) && (backToKw pos (keywordEach [] X.env)).all (fun x => x.1.isSome)
      && decide ([i, e].length + ([] : List Keyword).length + (if ([] : List Keyword).isEmpty then 0 else 1) < 30)) = true := by rfl)
    (hline : (apos.endLine == pos.line) = true := by rfl) (hs : starEach [i, e] X.env = (false, eval i X.env) :: starEach [e] X.env := by rfl) (hs2 : starEach [e] X.env = (false, eval e X.env) :: starEach [] X.env := by rfl)
    (hpl : (backTo pos (starEach [e] X.env)).any (·.1) = false := by rfl) :
    SE X W (.Call (.Attribute o "insert" apos) [i, e] [] pos) (eIns fo fi fe) :=
  PE.imp (pe_bm PySem.F.plainAttrs_list PySem.F.slot_list_insert PySem.F.type_list_insert mt_insert ho (pa_cons hi (pa_cons he pa_nil hs2) hs) hbase hfew hline hs hpl) fun σ H Q ⟨c, ρ, S, hr, he, q⟩ => by
    refine ⟨c, ρ, S, hr, he, (Aft.bind hr q).mono fun v c1 S1 H1 x1 h1 u hu => ?_⟩
    cases e1 : isLst S1 v with
    | false => simp only [e1] at h1; exact h1.elim
    | true =>
      simp only [e1] at h1
      obtain ⟨n, a, ds, vs, rfl, rfl, g1, g2, g3, g4, g5⟩ := isLst_at x1.rel hu e1
      refine ⟨.inl ⟨rfl, vs, SqL.of g3⟩, c1, ρ, S1, x1.rel, he.keep hr x1, (Aft.bind x1.rel h1).mono fun w c2 S2 H2 x2 h2 y hy => ?_⟩
      refine ⟨c2, ρ, S2, x2.rel, (he.keep hr x1).keep x1.rel x2, (Aft.bind x2.rel h2).mono fun w3 c3 S3 H3 x3 h3 y3 hy3 => ?_⟩
      have p13 := (prefix_get x3.pre (prefix_get x2.pre g1))
      unfold insL at h3
      split at h3
      · rename_i n' i' x' en
        cases en
        split at h3
        · rename_i ds2 e2
          split at h3
          · rename_i hl
            obtain ⟨_, vs2, q1, q2, q3⟩ := x3.rel.ob _ a _ p13 e2
            cases (hy.keep x2.rel x3 : VRep c3 H3 (.d (.int i')) y)
            refine ⟨a, vs2, i', y3, rfl, rfl, q1, by rw [← q3.length]; exact hl.1, hl.2.1, by have := hl.2.2; omega, ?_⟩
            have k := write_kp (ho := .lst (vs2.take i'.toNat ++ [y3] ++ vs2.drop i'.toNat)) x3.rel p13 e2
            refine h3 c3 _ (Nx.write x3.rel p13 e2 (fun _ z => by cases z) ⟨vs2.take i'.toNat ++ [y3] ++ vs2.drop i'.toNat, upd_same, ?_, ?_⟩) _ .non
            · have := hl.1
              rw [q3.length] at this
              rw [List.length_append, List.length_append, List.length_take, List.length_drop, List.length_singleton]; omega
            · exact (((RepL.keep k _ _ q3).take _).append (.cons (Rep.keep k _ _ hy3) .nil)).append ((RepL.keep k _ _ q3).drop _)
          · exact h3.elim
        · exact h3.elim
      · exact h3.elim
end DL

namespace DL
open PySem PySem.Spec PyProof.Rows L2 RZ
/-! ### zip of a tuple and a list -/
def ItzM (K : PySem.W.Frag) (a b : Addr) : It :=
  ⟨fun i H => ∃ (xs ys : List V) (x y : V), SqT K H a xs ∧ SqL K H b ys ∧ xs[i]? = some x ∧ ys[i]? = some y,
    fun i H v H' => ∃ T x y, v = .ref T ∧ H T = none ∧ H' = upd H T (.tup [x, y]) ∧ (∀ xs, SqT K H a xs → xs[i]? = some x) ∧ ∀ ys, SqL K H b ys → ys[i]? = some y,
    fun i H => ∃ xs ys : List V, SqT K H a xs ∧ SqL K H b ys ∧ i ≤ xs.length ∧ i ≤ ys.length ∧ (i = xs.length ∨ i = ys.length)⟩
theorem turn_zipM {P : Program} {w : World} {K : PySem.W.Frag} {elts : List Expr} {kk : Nat} {tpos : Pos} {a b z TI TO i1 i2 : Addr} (D : PySem.ZipSep2 z TI TO i1 i2 [i1, a] [i2, b]) (hn1 : a ≠ i1) (hn2 : b ≠ i2) :
    Turn P w K (.Tuple elts kk tpos) (ItzM K a b) [z, TI, TO, i1, i2] z (fun i h => IsZip h z TI TO .none ∧ PySem.IsTupOf2 h TI (.ref i1) (.ref i2) ∧ (∃ x y, PySem.IsTupOf2 h TO x y) ∧ h.IsTupleIter i1 a i ∧ h.IsListIter i2 b i) where
  mem := by simp
  obj := fun i h st c hc => by
    obtain ⟨hz, hTI, ⟨x, y, hTO⟩, ⟨o1, e1, _, d1⟩, ⟨o2, e2, _, d2⟩⟩ := st
    have e' : c = z ∨ c = TI ∨ c = TO ∨ c = i1 ∨ c = i2 := by simpa using hc
    rcases e' with q | q | q | q | q
    · rw [q]; exact ⟨_, hz, fun v q => nomatch q⟩
    · rw [q]; exact ⟨_, hTI, fun v q => nomatch q⟩
    · rw [q]; exact ⟨_, hTO, fun v q => nomatch q⟩
    · rw [q]; exact ⟨o1, e1, fun v q => by rw [d1] at q; cases q⟩
    · rw [q]; exact ⟨o2, e2, fun v q => by rw [d2] at q; cases q⟩
  keep := fun i h h' st k => by
    obtain ⟨hz, hTI, ⟨x, y, hTO⟩, h1, h2⟩ := st
    exact ⟨k z (by simp) _ hz, k TI (by simp) _ hTI, ⟨x, y, k TO (by simp) _ hTO⟩, h1.at fun o q => k i1 (by simp) o q, h2.at fun o q => k i2 (by simp) o q⟩
  item := by
    intro X hP hw hK hc i pins s σ H E I hf st hg
    subst hP hw hK
    obtain ⟨hz, hTI, ⟨x0, y0, hTO⟩, h1, h2⟩ := st
    obtain ⟨xs, ys, x, y, hqx, hqy, hx, hy⟩ := hg
    obtain ⟨its, rv, p, _⟩ := I.tuple hqx
    obtain ⟨its2, rv2, p2, _⟩ := I.list hqy
    obtain ⟨u, hu, ru⟩ := rv.get hx
    obtain ⟨u2, hu2, ru2⟩ := rv2.get hy
    have hzl : z < s.heap.objs.size := Heap.lt_size hz
    have D1 := Draws.tuple (prog := X.prog) (w := X.w) (A := X.A.in1) (by simpa using I.ok.hd hc) i1 a hn1 its.toArray
    have D2 := Draws.list (prog := X.prog) (w := X.w) (A := X.A.in1) (by simpa using I.ok.hd hc) i2 b hn2 its2.toArray
    have hl1 : i < its.toArray.size := by have := (List.getElem?_eq_some_iff.mp hu).1; simpa using this
    have hl2 : i < its2.toArray.size := by have := (List.getElem?_eq_some_iff.mp hu2).1; simpa using this
    refine PySem.wpAny_pyNext_zipD2_item D D1 D2 hz hTI hTO ⟨h1, p⟩ ⟨h2, p2.isList⟩ hl1 hl2 fun x1 x2 h' tk hP1 hP2 z' TO' h1' h2' hT hsz hk => ?_
    have hx1 : x1 = u := by
      have h1 : its.toArray[i]? = some u := by simpa using hu
      exact Option.some.inj (hP1.symm.trans h1)
    have hx2 : x2 = u2 := by
      have h1 : its2.toArray[i]? = some u2 := by simpa using hu2
      exact Option.some.inj (hP2.symm.trans h1)
    subst hx1 hx2
    refine ⟨_, rfl, wpAny_letOwnedTupleGo_zip (s := { s with heap := h', toks := tk }) z' fun h'' z'' sb => ?_⟩
    have hT2 : h''.get? s.heap.objs.size = some { cls := .type "tuple", data := .seq #[x1, x2] } := (sb.2 _ (Nat.ne_of_gt hzl)).trans hT
    have new : ObjOk X.prog X.w (upd H s.heap.objs.size (.tup [x, y])) h'' s.heap.objs.size (.tup [x, y]) :=
      ⟨by show 2 ≤ sizeLine; decide, [x1, x2], .cons ru (.cons ru2 .nil), ⟨_, hT2, rfl, _, rfl⟩⟩
    have I1 : Inv X pins σ (upd H s.heap.objs.size (.tup [x, y])) { s with heap := h'', toks := tk } :=
      I.turnedNew (t' := tk) (ch := [z, TI, TO, i1, i2]) (fun c o hb q => (sb.2 c (fun q' => hb (by simp [q']))).trans (hk c o (fun q' => hb (by simp [q'])) (fun q' => hb (by simp [q'])) (fun q' => hb (by simp [q'])) (fun q' => hb (by simp [q'])) q)) hf (Nat.le_refl _) new
    refine ⟨.ref s.heap.objs.size, _, I1, rfl, ⟨_, x, y, rfl, I.hok.fresh (Nat.le_refl _), rfl, fun l hl => by rw [I.tuple_inj hl hqx]; exact hx, fun l hl => by rw [I.list_inj hl hqy]; exact hy⟩, ⟨z'', ?_, ⟨x1, x2, ?_⟩, ?_, ?_⟩, fun c hcm => ?_⟩
    · exact (sb.2 _ D.TIz).trans (hk _ _ D.TIz D.TITO D.TIi1 D.TIi2 hTI)
    · exact (sb.2 _ D.TOz).trans TO'
    · exact h1'.1.at fun o q => (sb.2 _ (Ne.symm D.zi1)).trans q
    · exact h2'.1.at fun o q => (sb.2 _ (Ne.symm D.zi2)).trans q
    · have hlt : c < s.heap.objs.size := by
        have e' : c = z ∨ c = TI ∨ c = TO ∨ c = i1 ∨ c = i2 := by simpa using hcm
        rcases e' with q | q | q | q | q
        · rw [q]; exact hzl
        · rw [q]; exact Heap.lt_size hTI
        · rw [q]; exact Heap.lt_size hTO
        · rw [q]; obtain ⟨_, e1, _⟩ := h1; exact Heap.lt_size e1
        · rw [q]; obtain ⟨_, e2, _⟩ := h2; exact Heap.lt_size e2
      rw [upd_ne (Nat.ne_of_lt hlt)]
      exact (hf c hcm).1
  done := by
    intro X hP hw hK hc i pins s σ H E I hf st hg
    subst hP hw hK
    obtain ⟨hz, hTI, ⟨x0, y0, hTO⟩, h1, h2⟩ := st
    obtain ⟨xs, ys, hqx, hqy, g1, g2, hend⟩ := hg
    obtain ⟨its, rv, p, _⟩ := I.tuple hqx
    obtain ⟨its2, rv2, p2, _⟩ := I.list hqy
    have l1 := rv.length
    have l2 := rv2.length
    have D1 := Draws.tuple (prog := X.prog) (w := X.w) (A := X.A.in1) (by simpa using I.ok.hd hc) i1 a hn1 its.toArray
    have D2 := Draws.list (prog := X.prog) (w := X.w) (A := X.A.in1) (by simpa using I.ok.hd hc) i2 b hn2 its2.toArray
    exact PySem.wpAny_pyNext_zipD2_end D D1 D2 hz hTI hTO ⟨h1, p⟩ ⟨h2, p2.isList⟩ (by simp; omega) (by simp; omega) (by simp; omega) fun h' tk hk => ⟨rfl, I.turnedL (t' := tk) (ch := [z, TI, TO, i1, i2]) (fun c o hb q =>
      hk c o (fun q' => hb (by simp [q'])) (fun q' => hb (by simp [q'])) (fun q' => hb (by simp [q'])) (fun q' => hb (by simp [q'])) q) hf⟩
  self := fun A i s Q E st h => wpAny_pyIter_zip st.1 h
theorem notin2 {x y z : Nat} (h1 : x ≠ y) (h2 : x ≠ z) : x ∉ [y, z] := by simp [h1, h2]
theorem zsep (n a b : Nat) (la : a < n) (lb : b < n) : PySem.ZipSep2 (n + 4) (n + 2) (n + 3) n (n + 1) [n, a] [n + 1, b] where
  TIz := show (n + 2 : Nat) ≠ n + 4 by omega
  TOz := show (n + 3 : Nat) ≠ n + 4 by omega
  TITO := show (n + 2 : Nat) ≠ n + 3 by omega
  TIi1 := show (n + 2 : Nat) ≠ n by omega
  mem1 := List.mem_cons_self
  zf1 := notin2 (by omega) (by omega)
  Tf1 := notin2 (by omega) (by omega)
  TIi2 := show (n + 2 : Nat) ≠ n + 1 by omega
  mem2 := List.mem_cons_self
  zf2 := notin2 (by omega) (by omega)
  Tf2 := notin2 (by omega) (by omega)
  sep1_2 := notin2 (by omega) (by omega)
  sep2_1 := notin2 (by omega) (by omega)
def iZipM (K : PySem.W.Frag) (ta : TA) : TI := fun σ H R => ta σ H fun vs H1 => ∃ a b xs ys, vs = [.ref a, .ref b] ∧ SqT K H1 a xs ∧ SqL K H1 b ys ∧ R (ItzM K a b) H1
theorem pi_zipM {X : Cx} {e e2 : Expr} {ta : TA} {p pos tpos : Pos} {elts : List Expr} {kk : Nat} (hg : Gl X "zip") (hm : X.mg "zip" = none) (ha : PA X [e, e2] ta)
    (hs : starEach [e, e2] X.env = (false, eval e X.env) :: starEach [e2] X.env := by rfl) (hpl : (backTo pos (starEach [e2] X.env)).any (·.1) = false := by rfl) :
    PI X (.Tuple elts kk tpos) (.Call (.Name "zip" p) [e, e2] [] pos) (iZipM X.K ta) := by
  refine ⟨fun pins s σ H R I h => ?_⟩
  refine Call_ (ld_blt I hg hm PyProof.Rows.boot_zip (PyProof.Rows.callWith_type1 (thn (ha.run pos pins s σ H _ I h) fun us s1 ⟨vs, H1, I1, r1, q1⟩ => ?_) hs hpl))
  obtain ⟨a, b, xs, ys, ex, hqx, hqy, q⟩ := q1
  subst ex
  cases r1 with
  | cons r rr =>
    cases rr with
    | cons r' rr =>
      cases rr
      cases r
      cases r'
      have fresh5 : ∀ c, c ∈ [s1.heap.objs.size + 4, s1.heap.objs.size + 2, s1.heap.objs.size + 3, s1.heap.objs.size, s1.heap.objs.size + 1] → FpOk X pins H1 c := fun c hcm => by
        have e' : c = s1.heap.objs.size + 4 ∨ c = s1.heap.objs.size + 2 ∨ c = s1.heap.objs.size + 3 ∨ c = s1.heap.objs.size ∨ c = s1.heap.objs.size + 1 := by simpa using hcm
        have hle : s1.heap.objs.size ≤ c := by omega
        exact I1.fpOk hle (I1.hok.fresh hle)
      obtain ⟨its, rv, p1, _⟩ := I1.tuple hqx
      obtain ⟨its2, rv2, p2, _⟩ := I1.list hqy
      obtain ⟨o1, ho1, _⟩ := id p1
      have la : a < s1.heap.objs.size := Heap.lt_size ho1
      have lb : b < s1.heap.objs.size := p2.lt
      refine zip_begins2 (begins_tuple a its.toArray) (begins_list b its2.toArray) p1 p2.isList fun h' hz hTI hTO g1 g2 hsz hk => wpAny_pyIter_zip hz ?_
      have I2 : Inv X pins σ H1 { s1 with heap := h' } := I1.kept (t' := s1.toks) hk
      have sep : ∀ n a b : Nat, a < n → b < n → PySem.ZipSep2 (n + 4) (n + 2) (n + 3) n (n + 1) [n, a] [n + 1, b] := fun n a b la lb => zsep n a b la lb
      exact ⟨s1.heap.objs.size + 4, [s1.heap.objs.size + 4, s1.heap.objs.size + 2, s1.heap.objs.size + 3, s1.heap.objs.size, s1.heap.objs.size + 1], _, _, H1, rfl, I2, turn_zipM (sep _ a b la lb) (Nat.ne_of_lt la) (Nat.ne_of_lt (Nat.lt_succ_of_lt lb)), ⟨hz, hTI, ⟨_, _, hTO⟩, ⟨_, g1, rfl, rfl⟩, ⟨_, g2, rfl, rfl⟩⟩, fresh5, q⟩
theorem walk_zipT {K : PySem.W.Frag} {a b : Addr} {xs ys : List V} {n : Nat} (hn : n = min xs.length ys.length) : Walk (ItzT K a b) n (fun H => SqT K H a xs ∧ SqT K H b ys) (YPair (fun i => xs[i]?) (fun i => ys[i]?)) := by
  refine ⟨fun i _ hi q => ⟨xs, ys, xs[i], ys[i], q.1, q.2, by simp, by simp⟩, fun _ q => ⟨xs, ys, q.1, q.2, by omega⟩, fun i H v H' _ q y => ?_⟩
  obtain ⟨T, x, y, h1, h2, h3, h4, h5⟩ := y
  exact ⟨T, x, y, h1, h2, h3, h4 xs q.1, h5 ys q.2⟩
theorem walk_zipM {K : PySem.W.Frag} {a b : Addr} {xs ys : List V} {n : Nat} (hn : n = min xs.length ys.length) : Walk (ItzM K a b) n (fun H => SqT K H a xs ∧ SqL K H b ys) (YPair (fun i => xs[i]?) (fun i => ys[i]?)) := by
  refine ⟨fun i _ hi q => ⟨xs, ys, xs[i], ys[i], q.1, q.2, by simp, by simp⟩, fun _ q => ⟨xs, ys, q.1, q.2, by omega, by omega, by omega⟩, fun i H v H' _ q y => ?_⟩
  obtain ⟨T, x, y, h1, h2, h3, h4, h5⟩ := y
  exact ⟨T, x, y, h1, h2, h3, h4 xs q.1, h5 ys q.2⟩
def itZipX (f : La) : Iy := fun ρ S => (f ρ S).bind fun vs S1 => match vs with
  | [.d (.list ds), .d (.list es)] => .ok (zipD ds es) S1
  | [.d (.tuple ds), .d (.tuple es)] => .ok (zipD ds es) S1
  | [.d (.tuple ds), .d (.list es)] => .ok (zipD ds es) S1
  | _ => .bad
theorem zipD_get {ds es : List D} {i : Nat} {d e : D} (h1 : ds[i]? = some d) (h2 : es[i]? = some e) : (zipD ds es)[i]? = some (.tuple [d, e]) := by
  simp [zipD, List.getElem?_zipWith, h1, h2]
theorem zipD_len (ds es : List D) : (zipD ds es).length = min ds.length es.length := by simp [zipD]
theorem si_zip {X : Cx} {W : WX} {e e2 : Expr} {f : La} {p pos tpos : Pos} {elts : List Expr} {kk : Nat} (hg : Gl X "zip") (hm : X.mg "zip" = none) (ha : SA X W [e, e2] f)
    (hs : starEach [e, e2] X.env = (false, eval e X.env) :: starEach [e2] X.env := by rfl) (hpl : (backTo pos (starEach [e2] X.env)).any (·.1) = false := by rfl) :
    SI X W (.Tuple elts kk tpos) (.Call (.Name "zip" p) [e, e2] [] pos) (itZipX f) := PI.imp (PI.or (pi_zipA hg hm ha hs hpl) (pi_zipM hg hm ha hs hpl)) fun σ H R' ⟨c, ρ, S, hr, he, q⟩ => by
  unfold itZipX at q
  have q := Aft.bind hr q
  cases e1 : f ρ S with
  | exc x S' => exact .inl ⟨c, ρ, S, hr, he, by rw [e1] at q ⊢; exact q⟩
  | bad => rw [e1] at q; exact q.elim
  | ok vs S1 =>
    rw [e1] at q
    have q : ∀ c' H', Nx c S H c' S1 H' → Aft X.mg W c' S1 σ H' _ _ := q
    by_cases k1 : ∃ ds es, vs = [.d (.list ds), .d (.list es)]
    · obtain ⟨ds, es, rfl⟩ := k1
      refine .inl ⟨c, ρ, S, hr, he, ?_⟩
      rw [e1]
      intro c1 H1 x1 us hus
      cases hus with
      | cons hu t =>
        cases t with
        | cons hu2 t =>
          cases t
          cases hu with
          | lst n h1 h2 h3 =>
            cases hu2 with
            | lst n' k1 k2 k3 =>
              refine ⟨_, _, _, _, rfl, .inl ⟨SqL.of h1, SqL.of k1, q c1 H1 x1 c1 H1 (Nx.refl x1.rel) _ (wd_pair x1.rel (by rw [zipD_len, h3.length]; omega) (walk_zip (by rw [zipD_len, h3.length, k3.length])) (fun H' g => ⟨SqL.of (g _ _ h1 fun z => n (x1.rel.live z)), SqL.of (g _ _ k1 fun z => n' (x1.rel.live z))⟩) fun i x y hi hx hy => ?_)⟩⟩
              obtain ⟨d, h4, h5⟩ := h3.getV hx
              obtain ⟨d', h6, h7⟩ := k3.getV hy
              exact ⟨d, d', zipD_get h4 h6, h5, h7⟩
    · by_cases k2 : ∃ ds es, vs = [.d (.tuple ds), .d (.tuple es)]
      · obtain ⟨ds, es, rfl⟩ := k2
        refine .inl ⟨c, ρ, S, hr, he, ?_⟩
        rw [e1]
        intro c1 H1 x1 us hus
        cases hus with
        | cons hu t =>
          cases t with
          | cons hu2 t =>
            cases t
            cases hu with
            | tup h1 h2 h3 =>
              cases hu2 with
              | tup k1 k2 k3 =>
                refine ⟨_, _, _, _, rfl, .inr ⟨SqT.of h1, SqT.of k1, q c1 H1 x1 c1 H1 (Nx.refl x1.rel) _ (wd_pair x1.rel (by rw [zipD_len, h3.length]; omega) (walk_zipT (by rw [zipD_len, h3.length, k3.length])) (fun H' g => ⟨SqT.of (g _ _ h1 fun z => x1.rel.nt _ _ h1 (x1.rel.live z)), SqT.of (g _ _ k1 fun z => x1.rel.nt _ _ k1 (x1.rel.live z))⟩) fun i x y hi hx hy => ?_)⟩⟩
                obtain ⟨d, h4, h5⟩ := h3.getV hx
                obtain ⟨d', h6, h7⟩ := k3.getV hy
                exact ⟨d, d', zipD_get h4 h6, h5, h7⟩
      · by_cases k3 : ∃ ds es, vs = [.d (.tuple ds), .d (.list es)]
        · obtain ⟨ds, es, rfl⟩ := k3
          refine .inr ⟨c, ρ, S, hr, he, ?_⟩
          rw [e1]
          intro c1 H1 x1 us hus
          cases hus with
          | cons hu t =>
            cases t with
            | cons hu2 t =>
              cases t
              cases hu with
              | tup h1 h2 h3 =>
                cases hu2 with
                | lst n' k1 k2 k3 =>
                  refine ⟨_, _, _, _, rfl, SqT.of h1, SqL.of k1, q c1 H1 x1 c1 H1 (Nx.refl x1.rel) _ (wd_pair x1.rel (by rw [zipD_len, h3.length]; omega) (walk_zipM (by rw [zipD_len, h3.length, k3.length])) (fun H' g => ⟨SqT.of (g _ _ h1 fun z => x1.rel.nt _ _ h1 (x1.rel.live z)), SqL.of (g _ _ k1 fun z => n' (x1.rel.live z))⟩) fun i x y hi hx hy => ?_)⟩
                  obtain ⟨d, h4, h5⟩ := h3.getV hx
                  obtain ⟨d', h6, h7⟩ := k3.getV hy
                  exact ⟨d, d', zipD_get h4 h6, h5, h7⟩
        · refine .inl ⟨c, ρ, S, hr, he, ?_⟩
          rw [e1]
          intro c1 H1 x1
          have q2 := q c1 H1 x1
          exfalso
          revert q2
          split
          · exact absurd ⟨_, _, rfl⟩ k1
          · exact absurd ⟨_, _, rfl⟩ k2
          · exact absurd ⟨_, _, rfl⟩ k3
          · exact fun z => z
end DL

namespace DL
open PySem PySem.Spec PyProof.Rows L2
/-! ### xs.extend(ys) -/
def extL (v w : Val) (S : Sto) : R Val := match v, w with
  | .loc n, .d (.list zs) => match S[n]? with
    | some (some (.lst ds)) => if ds.length + zs.length ≤ sizeLine then .ok (.d .none) (S.set n (some (.lst (ds ++ zs)))) else .bad
    | _ => .bad
  | _, _ => .bad
def eExt (fo fe : Ex) : Ex := fun ρ S => (fo ρ S).bind fun v S1 => match isLst S1 v with
  | true => (fe ρ S1).bind fun w S2 => extL v w S2
  | false => .bad
theorem se_ext {X : Cx} {W : WX} {pos : Pos} {o e : Expr} {fo fe : Ex} {apos : Pos} (ho : SE X W o fo) (he : SE X W e fe) (hbase : attributeBase o "extend" X.env (eval o X.env) = eval o X.env := by rfl)
    (hfew : ((backTo pos (starEach [e] X.env)).all (fun x => !x.1) && (backToKw pos (keywordEach [] X.env)).all (fun x => x.1.isSome)
      && decide ([e].length + ([] : List Keyword).length + (if ([] : List Keyword).isEmpty then 0 else 1) < 30)) = true := by rfl)
    (hline : (apos.endLine == pos.line) = true := by rfl) (hs : starEach [e] X.env = (false, eval e X.env) :: starEach [] X.env := by rfl) :
    SE X W (.Call (.Attribute o "extend" apos) [e] [] pos) (eExt fo fe) :=
  PE.imp (pe_bm PySem.F.plainAttrs_list PySem.F.slot_list_extend PySem.F.type_list_extend mt_extend ho (pa_cons he pa_nil hs) hbase hfew hline hs rfl) fun σ H Q ⟨c, ρ, S, hr, he, q⟩ => by
    refine ⟨c, ρ, S, hr, he, (Aft.bind hr q).mono fun v c1 S1 H1 x1 h1 u hu => ?_⟩
    cases e1 : isLst S1 v with
    | false => simp only [e1] at h1; exact h1.elim
    | true =>
      simp only [e1] at h1
      obtain ⟨n, a, ds, vs, rfl, rfl, g1, g2, g3, g4, g5⟩ := isLst_at x1.rel hu e1
      refine ⟨.inl ⟨rfl, vs, SqL.of g3⟩, c1, ρ, S1, x1.rel, he.keep hr x1, (Aft.bind x1.rel h1).mono fun w c2 S2 H2 x2 h2 y hy => ?_⟩
      have p12 := prefix_get x2.pre g1
      unfold extL at h2
      split at h2
      · rename_i n' zs en
        cases en
        split at h2
        · rename_i ds2 e2
          split at h2
          · rename_i hl
            obtain ⟨_, vs2, q1, q2, q3⟩ := x2.rel.ob _ a _ p12 e2
            cases (hy : Rep c2.A H2 (.list zs) y) with
            | lst hn hb hbl hbr =>
              rename_i b us
              refine ⟨a, b, vs2, us, rfl, rfl, q1, hb, by rw [← q3.length, ← hbr.length]; exact hl, ?_⟩
              refine h2 c2 _ (Nx.write x2.rel p12 e2 (fun _ z => by cases z) ⟨vs2 ++ us, upd_same, ?_, ?_⟩) _ .non
              · rw [List.length_append, ← q3.length, ← hbr.length]; exact hl
              · exact (RepL.keep (write_kp x2.rel p12 e2) _ _ q3).append (RepL.keep (write_kp x2.rel p12 e2) _ _ hbr)
          · exact h2.elim
        · exact h2.elim
      · exact h2.elim
/-! ### xs.pop(i) -/
def popL (v i : Val) (S : Sto) : R Val := match v, i with
  | .loc n, .d (.int i) => match S[n]? with
    | some (some (.lst ds)) => match (if 0 ≤ i ∧ i < 1000000 then ds[i.toNat]? else none) with
      | some y => .ok (.d y) (S.set n (some (.lst (ds.eraseIdx i.toNat))))
      | none => .bad
    | _ => .bad
  | _, _ => .bad
def ePop (fo fi : Ex) : Ex := fun ρ S => (fo ρ S).bind fun v S1 => match isLst S1 v with
  | true => (fi ρ S1).bind fun w S2 => popL v w S2
  | false => .bad
theorem RepL.erase {A : Addr → Prop} {H : Hp} : ∀ {ds : List D} {vs : List V} (n : Nat), RepL A H ds vs → RepL A H (ds.eraseIdx n) (vs.eraseIdx n)
  | _, _, _, .nil => by simp; exact .nil
  | _, _, 0, .cons _ r => r
  | _, _, n + 1, .cons h r => .cons h (RepL.erase n r)
theorem seqIx_pos {i : Int} {n : Nat} (h : 0 ≤ i) (h2 : i < n) : seqIndex? i n = some i.toNat := by
  unfold seqIndex?
  have h1 : ¬ i < 0 := by omega
  simp [h1, h, h2]
theorem se_pop {X : Cx} {W : WX} {pos : Pos} {o e : Expr} {fo fe : Ex} {apos : Pos} (ho : SE X W o fo) (he : SE X W e fe) (hbase : attributeBase o "pop" X.env (eval o X.env) = eval o X.env := by rfl)
    (hfew : ((backTo pos (starEach [e] X.env)).all (fun x => !x.1) && (backToKw pos (keywordEach [] X.env)).all (fun x => x.1.isSome)
      && decide ([e].length + ([] : List Keyword).length + (if ([] : List Keyword).isEmpty then 0 else 1) < 30)) = true := by rfl)
    (hline : (apos.endLine == pos.line) = true := by rfl) (hs : starEach [e] X.env = (false, eval e X.env) :: starEach [] X.env := by rfl) :
    SE X W (.Call (.Attribute o "pop" apos) [e] [] pos) (ePop fo fe) :=
  PE.imp (pe_bm PySem.F.plainAttrs_list PySem.F.slot_list_pop PySem.F.type_list_pop mt_popAt ho (pa_cons he pa_nil hs) hbase hfew hline hs rfl) fun σ H Q ⟨c, ρ, S, hr, he, q⟩ => by
    refine ⟨c, ρ, S, hr, he, (Aft.bind hr q).mono fun v c1 S1 H1 x1 h1 u hu => ?_⟩
    cases e1 : isLst S1 v with
    | false => simp only [e1] at h1; exact h1.elim
    | true =>
      simp only [e1] at h1
      obtain ⟨n, a, ds, vs, rfl, rfl, g1, g2, g3, g4, g5⟩ := isLst_at x1.rel hu e1
      refine ⟨.inl ⟨rfl, vs, SqL.of g3⟩, c1, ρ, S1, x1.rel, he.keep hr x1, (Aft.bind x1.rel h1).mono fun w c2 S2 H2 x2 h2 y hy => ?_⟩
      have p12 := prefix_get x2.pre g1
      unfold popL at h2
      split at h2
      · rename_i n' i en
        cases en
        cases (hy : Rep c2.A H2 (.int i) y)
        split at h2
        · rename_i ds2 e2
          split at h2
          · rename_i d hd
            split at hd
            · rename_i hi
              obtain ⟨_, vs2, q1, q2, q3⟩ := x2.rel.ob _ a _ p12 e2
              obtain ⟨u, hu1, hu2⟩ := q3.get hd
              have hlt := (List.getElem?_eq_some_iff.mp hu1).1
              refine ⟨a, vs2, i, i.toNat, u, rfl, rfl, q1, by omega, by omega, seqIx_pos hi.1 (by omega), hu1, ?_⟩
              refine h2 c2 _ (Nx.write x2.rel p12 e2 (fun _ z => by cases z) ⟨vs2.eraseIdx i.toNat, upd_same, ?_, ?_⟩) _ (Rep.keep (write_kp x2.rel p12 e2) _ _ hu2)
              · exact Nat.le_trans (List.length_eraseIdx_le _ _) q2
              · exact RepL.keep (write_kp x2.rel p12 e2) _ _ (q3.erase _)
            · cases hd
          · exact h2.elim
        · exact h2.elim
      · exact h2.elim
/-! ### xs[i:j] as a new list that is changed later -/
def eSlM (fe : Ex) (fl fh : Po) : Ex := fun ρ S => (fe ρ S).bind fun v S1 => (fl ρ S1).bind fun l S2 => (fh ρ S2).bind fun h S3 => newL ((lookR S3 v).bind fun d => match d with
  | .list xs => some (.list (cutD xs l h))
  | _ => none) S3
theorem se_slM {X : Cx} {W : WX} {e : Expr} {lo hi : Option Expr} {fe : Ex} {fl fh : Po} {p2 pos : Pos} (he : SE X W e fe) (hl : SO X W lo fl) (hh : SO X W hi fh) : SE X W (.Subscript e (.Slice lo hi none p2) pos) (eSlM fe fl fh) :=
  PE.imp (pe_slice sl_list he hl hh) fun σ H Q ⟨c, ρ, S, hr, he, q⟩ => by
    refine ⟨c, ρ, S, hr, he, (Aft.bind hr q).mono fun v c1 S1 H1 x1 h1 u hu => ?_⟩
    refine ⟨c1, ρ, S1, x1.rel, he.keep hr x1, (Aft.bind x1.rel h1).mono fun l c2 S2 H2 x2 h2 => ?_⟩
    refine ⟨c2, ρ, S2, x2.rel, (he.keep hr x1).keep x1.rel x2, (Aft.bind x2.rel h2).mono fun h c3 S3 H3 x3 h3 => ?_⟩
    have hv : VRep c3 H3 v u := (hu.keep x1.rel x2).keep x2.rel x3
    have hr3 := x3.rel
    cases e1 : lookR S3 v with
    | none => simp only [e1, Option.bind, newL] at h3; exact h3.elim
    | some d =>
      have hd := lookR_rep hr3 hv e1
      cases d with
      | list xs =>
        simp only [e1, Option.bind] at h3
        obtain ⟨a, vs, rfl, g1, g2, g3⟩ := hd.list
        exact ⟨a, vs, rfl, g1, newL_r hr3 (g3.cut l h) (Nat.le_trans (cutV_length _ _ _) g2) h3⟩
      | none => simp only [e1, Option.bind, newL] at h3; exact h3.elim
      | bool _ => simp only [e1, Option.bind, newL] at h3; exact h3.elim
      | int _ => simp only [e1, Option.bind, newL] at h3; exact h3.elim
      | str _ => simp only [e1, Option.bind, newL] at h3; exact h3.elim
      | tuple _ => simp only [e1, Option.bind, newL] at h3; exact h3.elim
      | dict _ => simp only [e1, Option.bind, newL] at h3; exact h3.elim
end DL

namespace DL
open PySem PySem.Spec PyProof.Rows L2
/-! ### list(range(..)) as a new list -/
def rgM (i j : Int) (S : Sto) : R Val := newL ((rgI i j).map .list) S
def eRgM1 (fa : Ex) : Ex := fun ρ S => (fa ρ S).bind fun v S1 => match v with
  | .d (.int j) => rgM 0 j S1
  | _ => .bad
def eRgM2 (fa fb : Ex) : Ex := fun ρ S => (fa ρ S).bind fun v S1 => (fb ρ S1).bind fun w S2 => match v, w with
  | .d (.int i), .d (.int j) => rgM i j S2
  | _, _ => .bad
theorem RepL.rg {A : Addr → Prop} {H : Hp} (i : Int) : ∀ (ns : List Nat), RepL A H (ns.map fun k => PyData.int (i + (k : Nat))) (ns.map fun k => V.int (i + (k : Nat)))
  | [] => .nil
  | n :: r => .cons (.int _) (RepL.rg i r)
theorem rgM_r {mg : Str → Option Value} {W : WX} {c : Cor Ω} {S : Sto} {H : Hp} {σ : L2.St} {Q : VK} {i j : Int} (hr : Rel c S H) (h : Aft mg W c S σ H (rgM i j S) fun v c' _ H' => ∀ u, VRep c' H' v u → Q u H') :
    RgOk i j ∧ ∀ p, H p = none → Q (.ref p) (upd H p (.lst (rgV i j))) := by
  unfold rgM rgI at h
  split at h
  · rename_i hc
    have ok : RgOk i j := ⟨by omega, by omega, by omega, by omega, by omega⟩
    refine ⟨ok, ?_⟩
    exact newL_r hr (us := rgV i j) (ds := rangeD i (j - i).toNat) (RepL.rg i _) (by rw [rgV_length]; show _ ≤ sizeLine; unfold sizeLine; omega) h
  · simp only [Option.map, newL] at h; exact h.elim
section
variable {X : Cx} {W : WX} {p p2 pos pos2 : Pos} {a b : Expr} {fa fb : Ex}
theorem se_rgM1 (hc : X.calm = true) (hl : Gl X "list") (hlm : X.mg "list" = none) (hg : Gl X "range") (hm : X.mg "range" = none) (ha : SE X W a fa)
    (na : starEach [a] X.env = (false, eval a X.env) :: starEach [] X.env := by rfl) (nl : starEach [.Call (.Name "range" p) [a] [] pos] X.env = (false, eval (.Call (.Name "range" p) [a] [] pos) X.env) :: starEach [] X.env := by rfl) :
    SE X W (.Call (.Name "list" p2) [.Call (.Name "range" p) [a] [] pos] [] pos2) (eRgM1 fa) :=
  PE.imp (pe_listRg hc hl hlm (prg_1 hg hm ha na) nl) fun σ H Q ⟨c, ρ, S, hr, he, q⟩ => by
    refine ⟨c, ρ, S, hr, he, (Aft.bind hr q).mono fun v c1 S1 H1 x1 h1 u hu => ?_⟩
    split at h1
    · rename_i j
      cases (hu : Rep c1.A H1 (.int j) u)
      exact ⟨j, rfl, rgM_r x1.rel h1⟩
    · exact h1.elim
theorem se_rgM2 (hc : X.calm = true) (hl : Gl X "list") (hlm : X.mg "list" = none) (hg : Gl X "range") (hm : X.mg "range" = none) (ha : SE X W a fa) (hb : SE X W b fb)
    (na : starEach [a, b] X.env = (false, eval a X.env) :: starEach [b] X.env := by rfl) (nb : starEach [b] X.env = (false, eval b X.env) :: starEach [] X.env := by rfl) (hp : (backTo pos (starEach [b] X.env)).any (·.1) = false := by rfl)
    (nl : starEach [.Call (.Name "range" p) [a, b] [] pos] X.env = (false, eval (.Call (.Name "range" p) [a, b] [] pos) X.env) :: starEach [] X.env := by rfl) :
    SE X W (.Call (.Name "list" p2) [.Call (.Name "range" p) [a, b] [] pos] [] pos2) (eRgM2 fa fb) :=
  PE.imp (pe_listRg hc hl hlm (prg_2 hg hm ha hb na nb hp) nl) fun σ H Q ⟨c, ρ, S, hr, he, q⟩ => two hr he q fun v w c2 S2 H2 x y x1 hv hw h => by
    split at h
    · rename_i i j
      cases (hv : Rep c2.A H2 (.int i) x)
      cases (hw : Rep c2.A H2 (.int j) y)
      exact ⟨i, j, rfl, rfl, rgM_r x1.rel h⟩
    · exact h.elim
end
/-! ### xs * k as a new list -/
def eRepM (fa fb : Ex) : Ex := fun ρ S => (fa ρ S).bind fun v S1 => (fb ρ S1).bind fun w S2 => match v, w with
  | .d (.list xs), .d (.int k) => if -1000000 ≤ k ∧ k ≤ 1000000 ∧ xs.length * k.toNat ≤ sizeLine then newL (some (.list (List.replicate k.toNat xs).flatten)) S2 else .bad
  | _, _ => .bad
theorem RepL.rep {A : Addr → Prop} {H : Hp} {ds : List D} {vs : List V} (h : RepL A H ds vs) : ∀ n : Nat, RepL A H (List.replicate n ds).flatten (List.replicate n vs).flatten
  | 0 => .nil
  | n + 1 => by rw [List.replicate_succ, List.replicate_succ, List.flatten_cons, List.flatten_cons]; exact h.append (RepL.rep h n)
theorem len_rep {α : Type} (xs : List α) : ∀ n : Nat, (List.replicate n xs).flatten.length = xs.length * n
  | 0 => by simp
  | n + 1 => by rw [List.replicate_succ, List.flatten_cons, List.length_append, len_rep xs n, Nat.mul_succ]; omega
theorem se_repM {X : Cx} {W : WX} {a b : Expr} {fa fb : Ex} {pos : Pos} (ha : SE X W a fa) (hb : SE X W b fb) : SE X W (.BinOp a .Mult b pos) (eRepM fa fb) :=
  PE.imp (pe_op op_rep ha hb) fun σ H Q ⟨c, ρ, S, hr, he, q⟩ => two hr he q fun v w c2 S2 H2 x y x1 hv hw h => by
    split at h
    · rename_i xs k
      split at h
      · rename_i hc
        cases (hw : Rep c2.A H2 (.int k) y)
        cases (hv : Rep c2.A H2 (.list xs) x) with
        | lst hn hb hbl hbr =>
          rename_i l us
          refine ⟨l, k, us, rfl, rfl, hb, by omega, by omega, by rw [← hbr.length]; exact hc.2.2, ?_⟩
          exact newL_r x1.rel (hbr.rep _) (by rw [len_rep, ← hbr.length]; exact hc.2.2) h
      · exact h.elim
    · exact h.elim
end DL

namespace DL
open PySem PySem.Spec PyProof.Rows L2
/-! ### max(xs), min(xs) of ints, of a list or a tuple -/
section
variable {prog : Program} {w : World} {A : Around} {E : Value → Shared → Prop} {s : Shared} {l : Addr} {xs : Array (Int × Tok)} {its : List Value} {ns : List Int} {Q : Value → Shared → Prop}
theorem iter_intTup (hl : s.heap.IsTuple l (intItems xs))
    (h : ∀ s₂ : Shared, s₂ = { s with heap := s.heap.push { cls := .type "tuple_iterator", data := .fields #[.ref l, .int 0 0] } } →
      (s₂.heap.IsTupleIter s.heap.objs.size l 0 ∧ s₂.heap.IsTuple l (intItems xs)) → (∀ b ∈ [s.heap.objs.size, l], b < s₂.heap.objs.size) → l ≠ s.heap.objs.size → Q (.ref s.heap.objs.size) s₂) :
    wpAny (model prog w) A (pyIter (.ref l)) Q E s := by
  have hlt : l < s.heap.objs.size := by obtain ⟨_, e, _⟩ := hl; exact Heap.lt_size e
  refine wpAny_pyIter_tuple hl (h _ rfl ⟨⟨_, Heap.get?_push_size _ rfl, rfl, rfl⟩, hl.push _⟩ (fun b hb => ?_) (Nat.ne_of_lt hlt))
  show b < (s.heap.push _).objs.size
  rw [Heap.size_push]
  rcases List.mem_cons.mp hb with rfl | hb
  · exact Nat.lt_succ_self _
  · rcases List.mem_cons.mp hb with rfl | hb
    · exact Nat.lt_succ_of_lt hlt
    · cases hb
theorem old_keptT {h' : Heap} (hk : ∀ b o, b ∉ [s.heap.objs.size] → (s.heap.push { cls := .type "tuple_iterator", data := .fields #[.ref l, .int 0 0] }).get? b = some o → h'.get? b = some o) :
    ∀ b o, s.heap.get? b = some o → h'.get? b = some o := fun b o e => by
  refine hk b o (fun hm => ?_) (Heap.get?_push_of_some _ e)
  rcases List.mem_cons.mp hm with e1 | hm
  · exact absurd (e1 ▸ Heap.lt_size e) (Nat.lt_irrefl _)
  · cases hm
theorem max_intTup (hh : A.handled = none) (hl : s.heap.IsTuple l (intItems xs)) (hne : 0 < xs.size)
    (h : ∀ v h' tk, (intItems xs)[argBest (fun i j => decide (numAt xs i > numAt xs j)) (xs.size - 1)]? = some v → (∀ b o, s.heap.get? b = some o → h'.get? b = some o) → Q v { s with heap := h', toks := tk }) :
    wpAny (model prog w) A (call (.builtin "max") [.ref l]) Q E s := by
  refine call_max_walk (iter_intTup hl fun s₂ e st hfp hlI => ?_)
  subst e
  refine ⟨_, _, _, _, _, _, _, rfl, Walks.tuple (A := A.in1) hh _ l hlI (intItems xs), st, hfp, by simpa [intItems] using hne, CmpOf.ints_gt (numAt xs) (fun _ _ => intItems_at), fun v h' tk hP hk => ?_⟩
  exact h v h' tk (by simpa [intItems] using hP) (old_keptT hk)
theorem min_intTup (hh : A.handled = none) (hl : s.heap.IsTuple l (intItems xs)) (hne : 0 < xs.size)
    (h : ∀ v h' tk, (intItems xs)[argBest (fun i j => decide (numAt xs i < numAt xs j)) (xs.size - 1)]? = some v → (∀ b o, s.heap.get? b = some o → h'.get? b = some o) → Q v { s with heap := h', toks := tk }) :
    wpAny (model prog w) A (call (.builtin "min") [.ref l]) Q E s := by
  refine call_min_walk (iter_intTup hl fun s₂ e st hfp hlI => ?_)
  subst e
  refine ⟨_, _, _, _, _, _, _, rfl, Walks.tuple (A := A.in1) hh _ l hlI (intItems xs), st, hfp, by simpa [intItems] using hne, CmpOf.ints_lt (numAt xs) (fun _ _ => intItems_at), fun v h' tk hP hk => ?_⟩
  exact h v h' tk (by simpa [intItems] using hP) (old_keptT hk)
theorem max_rawT (hh : A.handled = none) (hl : s.heap.IsTuple l its.toArray) (hi : IntsAre its ns) (hne : 0 < ns.length)
    (h : ∀ h' tk M t', (∀ b o, s.heap.get? b = some o → h'.get? b = some o) → M ∈ ns → (∀ a, a ∈ ns → a ≤ M) → Q (.int M t') { s with heap := h', toks := tk }) : wpAny (model prog w) A (call (.builtin "max") [.ref l]) Q E s := by
  obtain ⟨xs, e⟩ := hi.allInts.items
  have hn : numsOf (intItems xs).toList = ns := by rw [← e]; exact hi.numsOf
  rw [nums_intItems] at hn
  subst hn
  rw [e] at hl
  have hsz : 0 < xs.size := by simpa using hne
  refine max_intTup hh hl hsz fun v h' tk hv hk => ?_
  obtain ⟨t, rfl⟩ := intItems_at hv
  obtain ⟨h1, h2⟩ := argBest_gt (numAt xs) (xs.size - 1)
  refine h h' tk _ t hk ?_ fun a ha => ?_
  · rw [numAt_eq]; exact PySem.getD_mem (by rw [List.length_map, Array.length_toList]; omega)
  · obtain ⟨j, hj, rfl⟩ := mem_getD ha
    rw [List.length_map, Array.length_toList] at hj
    rw [← numAt_eq]; exact h2 j (by omega)
theorem min_rawT (hh : A.handled = none) (hl : s.heap.IsTuple l its.toArray) (hi : IntsAre its ns) (hne : 0 < ns.length)
    (h : ∀ h' tk M t', (∀ b o, s.heap.get? b = some o → h'.get? b = some o) → M ∈ ns → (∀ a, a ∈ ns → M ≤ a) → Q (.int M t') { s with heap := h', toks := tk }) : wpAny (model prog w) A (call (.builtin "min") [.ref l]) Q E s := by
  obtain ⟨xs, e⟩ := hi.allInts.items
  have hn : numsOf (intItems xs).toList = ns := by rw [← e]; exact hi.numsOf
  rw [nums_intItems] at hn
  subst hn
  rw [e] at hl
  have hsz : 0 < xs.size := by simpa using hne
  refine min_intTup hh hl hsz fun v h' tk hv hk => ?_
  obtain ⟨t, rfl⟩ := intItems_at hv
  obtain ⟨h1, h2⟩ := argBest_lt (numAt xs) (xs.size - 1)
  refine h h' tk _ t hk ?_ fun a ha => ?_
  · rw [numAt_eq]; exact PySem.getD_mem (by rw [List.length_map, Array.length_toList]; omega)
  · obtain ⟨j, hj, rfl⟩ := mem_getD ha
    rw [List.length_map, Array.length_toList] at hj
    rw [← numAt_eq]; exact h2 j (by omega)
end
def maxI : List Int → Option Int
  | [] => none
  | x :: r => some (r.foldl max x)
def minI : List Int → Option Int
  | [] => none
  | x :: r => some (r.foldl min x)
theorem foldl_max : ∀ (r : List Int) (x : Int), (r.foldl max x = x ∨ r.foldl max x ∈ r) ∧ x ≤ r.foldl max x ∧ ∀ y ∈ r, y ≤ r.foldl max x
  | [], x => ⟨.inl rfl, Int.le_refl _, fun y hy => by simp at hy⟩
  | z :: r, x => by
    obtain ⟨h1, h2, h3⟩ := foldl_max r (max x z)
    rw [List.foldl_cons]
    refine ⟨?_, by omega, fun y hy => ?_⟩
    · rcases h1 with h1 | h1
      · rw [h1]
        by_cases h : x ≤ z
        · right; rw [Int.max_eq_right h]; exact List.mem_cons_self
        · left; omega
      · exact .inr (List.mem_cons_of_mem _ h1)
    · rcases List.mem_cons.mp hy with rfl | hy
      · omega
      · exact h3 y hy
theorem foldl_min : ∀ (r : List Int) (x : Int), (r.foldl min x = x ∨ r.foldl min x ∈ r) ∧ r.foldl min x ≤ x ∧ ∀ y ∈ r, r.foldl min x ≤ y
  | [], x => ⟨.inl rfl, Int.le_refl _, fun y hy => by simp at hy⟩
  | z :: r, x => by
    obtain ⟨h1, h2, h3⟩ := foldl_min r (min x z)
    rw [List.foldl_cons]
    refine ⟨?_, by omega, fun y hy => ?_⟩
    · rcases h1 with h1 | h1
      · rw [h1]
        by_cases h : x ≤ z
        · left; omega
        · right; rw [Int.min_eq_right (by omega)]; exact List.mem_cons_self
      · exact .inr (List.mem_cons_of_mem _ h1)
    · rcases List.mem_cons.mp hy with rfl | hy
      · omega
      · exact h3 y hy
theorem maxI_some {ns : List Int} {m : Int} (h : maxI ns = some m) : m ∈ ns ∧ ∀ y ∈ ns, y ≤ m := by
  cases ns with
  | nil => cases h
  | cons x r =>
    cases h
    obtain ⟨h1, h2, h3⟩ := foldl_max r x
    refine ⟨?_, fun y hy => ?_⟩
    · rcases h1 with h1 | h1
      · rw [h1]; exact List.mem_cons_self
      · exact List.mem_cons_of_mem _ h1
    · rcases List.mem_cons.mp hy with rfl | hy
      · exact h2
      · exact h3 y hy
theorem minI_some {ns : List Int} {m : Int} (h : minI ns = some m) : m ∈ ns ∧ ∀ y ∈ ns, m ≤ y := by
  cases ns with
  | nil => cases h
  | cons x r =>
    cases h
    obtain ⟨h1, h2, h3⟩ := foldl_min r x
    refine ⟨?_, fun y hy => ?_⟩
    · rcases h1 with h1 | h1
      · rw [h1]; exact List.mem_cons_self
      · exact List.mem_cons_of_mem _ h1
    · rcases List.mem_cons.mp hy with rfl | hy
      · exact h2
      · exact h3 y hy
def max1D : List D → Option D
  | [.list xs] => ((intsOf xs).bind maxI).map .int
  | [.tuple xs] => ((intsOf xs).bind maxI).map .int
  | _ => none
def min1D : List D → Option D
  | [.list xs] => ((intsOf xs).bind minI).map .int
  | [.tuple xs] => ((intsOf xs).bind minI).map .int
  | _ => none
section
variable {X : Cx}
def rMaxT (K : PySem.W.Frag) : List V → Hp → VK → Prop := fun vs H Q => ∃ (a : Addr) (ns : List Int), vs = [V.ref a] ∧ SqT K H a (ns.map V.int) ∧ 0 < ns.length ∧ ∀ m, m ∈ ns → (∀ y, y ∈ ns → y ≤ m) → Q (.int m) H
def rMinT (K : PySem.W.Frag) : List V → Hp → VK → Prop := fun vs H Q => ∃ (a : Addr) (ns : List Int), vs = [V.ref a] ∧ SqT K H a (ns.map V.int) ∧ 0 < ns.length ∧ ∀ m, m ∈ ns → (∀ y, y ∈ ns → m ≤ y) → Q (.int m) H
theorem cr_maxT (hc : X.calm = true) : CallR X (.builtin "max") (rMaxT X.K) := by
  intro pins s σ H vs us Q I r h
  obtain ⟨a, ns, rfl, hs, hne, q⟩ := h
  obtain ⟨its, rv, hl, _⟩ := I.tuple hs
  rw [Vals.ref1 r]
  exact max_rawT (I.ok.hd hc) hl rv.ints hne fun h' tk m t' hk h1 h2 => ⟨.int _, H, I.kept hk, ⟨_, rfl⟩, q m h1 h2⟩
theorem cr_minT (hc : X.calm = true) : CallR X (.builtin "min") (rMinT X.K) := by
  intro pins s σ H vs us Q I r h
  obtain ⟨a, ns, rfl, hs, hne, q⟩ := h
  obtain ⟨its, rv, hl, _⟩ := I.tuple hs
  rw [Vals.ref1 r]
  exact min_rawT (I.ok.hd hc) hl rv.ints hne fun h' tk m t' hk h1 h2 => ⟨.int _, H, I.kept hk, ⟨_, rfl⟩, q m h1 h2⟩
theorem same_max {ns : List Int} {m n : Int} (h : maxI ns = some m) (h1 : n ∈ ns) (h2 : ∀ y ∈ ns, y ≤ n) : n = m := by
  obtain ⟨a, b⟩ := maxI_some h
  have := h2 m a; have := b n h1; omega
theorem same_min {ns : List Int} {m n : Int} (h : minI ns = some m) (h1 : n ∈ ns) (h2 : ∀ y ∈ ns, n ≤ y) : n = m := by
  obtain ⟨a, b⟩ := minI_some h
  have := h2 m a; have := b n h1; omega
theorem b_max1 (hc : X.calm = true) : CallR X (.builtin "max") (rND X.K max1D) := CallR.imp (CallR.or (cr_max hc) (cr_maxT hc)) fun xs H Q ⟨c, S, ds, r, hr, hd, ho, q⟩ => by
  unfold max1D at ho
  split at ho
  · obtain ⟨m, h0, rfl⟩ := Option.map_eq_some_iff.mp ho
    obtain ⟨ns, h1, h5⟩ := Option.bind_eq_some_iff.mp h0
    obtain ⟨u, rfl, h⟩ := hd.one
    obtain ⟨a, vs, rfl, h2, h3, h4⟩ := h.list
    rw [intsOf_rep h4 h1] at h2
    refine .inl ⟨_, ns, rfl, h2, List.length_pos_of_mem (maxI_some h5).1, fun n n1 n2 => ?_⟩
    rw [same_max h5 n1 n2]
    exact q c H _ (Nx.refl hr) (.int _)
  · obtain ⟨m, h0, rfl⟩ := Option.map_eq_some_iff.mp ho
    obtain ⟨ns, h1, h5⟩ := Option.bind_eq_some_iff.mp h0
    obtain ⟨u, rfl, h⟩ := hd.one
    obtain ⟨a, vs, rfl, h2, h3, h4⟩ := (h.plain (fun _ z => by cases z)).tup
    rw [intsOf_rep h4 h1] at h2
    refine .inr ⟨_, ns, rfl, SqT.of h2, List.length_pos_of_mem (maxI_some h5).1, fun n n1 n2 => ?_⟩
    rw [same_max h5 n1 n2]
    exact q c H _ (Nx.refl hr) (.int _)
  · cases ho
theorem b_min1 (hc : X.calm = true) : CallR X (.builtin "min") (rND X.K min1D) := CallR.imp (CallR.or (cr_min hc) (cr_minT hc)) fun xs H Q ⟨c, S, ds, r, hr, hd, ho, q⟩ => by
  unfold min1D at ho
  split at ho
  · obtain ⟨m, h0, rfl⟩ := Option.map_eq_some_iff.mp ho
    obtain ⟨ns, h1, h5⟩ := Option.bind_eq_some_iff.mp h0
    obtain ⟨u, rfl, h⟩ := hd.one
    obtain ⟨a, vs, rfl, h2, h3, h4⟩ := h.list
    rw [intsOf_rep h4 h1] at h2
    refine .inl ⟨_, ns, rfl, h2, List.length_pos_of_mem (minI_some h5).1, fun n n1 n2 => ?_⟩
    rw [same_min h5 n1 n2]
    exact q c H _ (Nx.refl hr) (.int _)
  · obtain ⟨m, h0, rfl⟩ := Option.map_eq_some_iff.mp ho
    obtain ⟨ns, h1, h5⟩ := Option.bind_eq_some_iff.mp h0
    obtain ⟨u, rfl, h⟩ := hd.one
    obtain ⟨a, vs, rfl, h2, h3, h4⟩ := (h.plain (fun _ z => by cases z)).tup
    rw [intsOf_rep h4 h1] at h2
    refine .inr ⟨_, ns, rfl, SqT.of h2, List.length_pos_of_mem (minI_some h5).1, fun n n1 n2 => ?_⟩
    rw [same_min h5 n1 n2]
    exact q c H _ (Nx.refl hr) (.int _)
  · cases ho
end
/-! ### range(i, j, c), c from 1 on -/
def stepD (lo c : Int) (n : Nat) : List D := (List.range n).map fun i => .int (lo + (i : Nat) * c)
def rgI3 (i j c : Int) : Option (List D) := if -1000000 ≤ i ∧ i ≤ 1000000 ∧ -1000000 ≤ j ∧ j ≤ 1000000 ∧ 1 ≤ c ∧ c ≤ 1000 then some (stepD i c (Builtin.Range.rangeSize i j c).toNat) else none
def itR3p (f : La) : Iy := fun ρ S => (f ρ S).bind fun vs S1 => match vs with
  | [.d (.int i), .d (.int j), .d (.int c)] => ofL (rgI3 i j c) S1
  | _ => .bad
theorem stepD_get {lo c : Int} {n i : Nat} (h : i < n) : (stepD lo c n)[i]? = some (.int (lo + (i : Nat) * c)) := by simp [stepD, h]
theorem stepD_length (lo c : Int) (n : Nat) : (stepD lo c n).length = n := by simp [stepD]
theorem wd_step {Ω : PySem.W.Frag} {c0 : Cor Ω} {S : Sto} {H : Hp} {lo c : Int} {n : Nat} (hl : n ≤ sizeLine) : WD c0 S H (stepD lo c n) (Itc lo c n) := by
  refine ⟨?_, by rw [stepD_length]; exact hl⟩
  rw [stepD_length]
  refine (walk_rangeC (lo := lo) (c := c) (n := n)).mono (fun _ _ => trivial) fun i H1 x H2 hi _ y => ?_
  obtain ⟨rfl, rfl⟩ := y
  exact ⟨_, stepD_get hi, .inl rfl, fun A _ => .int _⟩
theorem size_of (i j c : Int) (h : 1 ≤ c) : 0 ≤ Builtin.Range.rangeSize i j c ∧ Builtin.Range.rangeSize i j c ≤ (j - i).toNat := by
  unfold Builtin.Range.rangeSize
  rw [if_pos (by omega)]
  split
  · have h1 := Int.ediv_nonneg (a := j - i - 1) (b := c) (by omega) (by omega)
    have h2 := Int.ediv_le_self c (show (0 : Int) ≤ j - i - 1 by omega)
    omega
  · omega
theorem rgI3_some {i j c : Int} {l : List D} (h : rgI3 i j c = some l) : RgC i j c (Builtin.Range.rangeSize i j c).toNat ∧ (Builtin.Range.rangeSize i j c).toNat ≤ sizeLine ∧ l = stepD i c (Builtin.Range.rangeSize i j c).toNat := by
  unfold rgI3 at h
  split at h
  · rename_i hc
    obtain ⟨s0, s1⟩ := size_of i j c hc.2.2.2.2.1
    refine ⟨⟨by omega, by omega, ?_, by omega⟩, by rw [sizeLine_eq]; omega, (Option.some.inj h).symm⟩
    unfold Builtin.Range.small Builtin.Range.rangeFitsLong
    simp only [Bool.and_eq_true, Bool.or_eq_true, decide_eq_true_eq, beq_iff_eq]
    refine ⟨⟨⟨⟨by omega, by omega⟩, by omega⟩, by omega⟩, .inr ?_⟩
    rw [if_pos (by omega)]
    simp only [Bool.and_eq_true, decide_eq_true_eq]
    omega
  · cases h
section
variable {X : Cx} {W : WX} {tg : Expr}
theorem si_range3 {a b c : Expr} {f : La} {p pos : Pos} (hg : Gl X "range") (hm : X.mg "range" = none) (ha : SA X W [a, b, c] f)
    (hs : starEach [a, b, c] X.env = (false, eval a X.env) :: starEach [b, c] X.env := by rfl) (hpl : (backTo pos (starEach [b, c] X.env)).any (·.1) = false := by rfl) :
    SI X W tg (.Call (.Name "range" p) [a, b, c] [] pos) (itR3p f) :=
  PI.imp (pi_range3 hg hm ha hs hpl) fun σ H R' ⟨c, ρ, S, hr, he, q⟩ => by
    refine ⟨c, ρ, S, hr, he, (Aft.bind hr q).mono fun vs c1 S1 H1 x1 h1 us hus => ?_⟩
    split at h1
    · rename_i i j k
      cases hus with
      | cons h t =>
        cases t with
        | cons h' t =>
          cases t with
          | cons h'' t =>
            cases t; cases h; cases h'; cases h''
            cases e : rgI3 i j k with
            | none => rw [e] at h1; exact h1.elim
            | some l =>
              rw [e] at h1
              obtain ⟨hb, hl, rfl⟩ := rgI3_some e
              exact ⟨i, j, k, _, rfl, hb, h1 c1 H1 (Nx.refl x1.rel) _ (wd_step hl)⟩
    · exact h1.elim
end
end DL

namespace DL
open PySem PySem.Spec PyProof.Rows L2
/-! ### dict(pairs) as data -/
def prsOf : List D → Option (List (Key × D))
  | [] => some []
  | .tuple [k, v] :: r => match keyOf k with
    | some kk => (prsOf r).map ((kk, v) :: ·)
    | none => none
  | _ => none
def mergeD (m ps : List (Key × D)) : List (Key × D) := ps.foldl (fun m p => putKD m p.1 p.2) m
def dictD : List D → Option D
  | [.list xs] => (prsOf xs).map fun ps => .dict ((mergeD [] ps).map fun p => (keyD p.1, p.2))
  | _ => none
theorem prs_rep {Ω : PySem.W.Frag} {A : Addr → Prop} {H : Hp} : ∀ {ds : List D} {vs : List V} {ps : List (Key × D)}, RepL A H ds vs → prsOf ds = some ps →
    ∃ (as : List Addr) (kvs : List (Key × V)), vs = as.map V.ref ∧ Paired (fun p kv => SqT Ω H p [kV kv.1, kv.2]) as kvs ∧ RepK A H (ps.map fun p => (keyD p.1, p.2)) kvs
  | _, _, _, .nil, e => by cases e; exact ⟨[], [], rfl, .nil, .nil⟩
  | _, _, ps, .cons (d := d) (v := v) h r, e => by
    unfold prsOf at e
    split at e
    · rename_i k w r' ed
      cases ed
    · rename_i k w r' ed
      cases ed
      split at e
      · rename_i kk ek
        obtain ⟨qs, e1, rfl⟩ := Option.map_eq_some_iff.mp e
        obtain ⟨as, kvs, rfl, hp, hk⟩ := prs_rep (Ω := Ω) r e1
        cases h with
        | tup ha hl hr =>
          cases hr with
          | cons h1 t => cases t with
            | cons h2 t =>
              cases t
              have ek' := keyOf_eq ek
              subst ek'
              have e3 := rep_key h1
              subst e3
              rename_i a _
              exact ⟨_ :: as, (kk, _) :: kvs, rfl, .cons (SqT.of ha) hp, .cons h2 hk⟩
      · cases e
    · cases e
theorem merge_rep {A : Addr → Prop} {H : Hp} : ∀ {ps : List (Key × D)} {kvs : List (Key × V)} {m : List (Key × D)} {n : List (Key × V)}, RepK A H (ps.map fun p => (keyD p.1, p.2)) kvs → RepK A H (m.map fun p => (keyD p.1, p.2)) n → RepK A H ((mergeD m ps).map fun p => (keyD p.1, p.2)) (mergeK n kvs)
  | [], _, m, n, h, hm => by cases h; exact hm
  | (k, d) :: ps, _, m, n, h, hm => by
    generalize hz : (((k, d) :: ps).map fun p => (keyD p.1, p.2)) = z at h
    cases h with
    | nil => cases hz
    | cons h1 h2 =>
      rename_i k' d' v ds vs
      simp only [List.map_cons, List.cons.injEq, Prod.mk.injEq] at hz
      obtain ⟨⟨e1, e2⟩, e3⟩ := hz
      subst e2 e3
      have ek : k = k' := by
        cases k <;> cases k' <;> simp only [keyD] at e1 <;> first | (cases e1; rfl) | cases e1
      subst ek
      show RepK A H ((mergeD (putKD m k d) ps).map fun p => (keyD p.1, p.2)) (mergeK (putK n k v) vs)
      exact merge_rep h2 (putK_rep h1 hm)
section
variable {X : Cx}
theorem b_dict (hc : X.calm = true) : CallR X (.type "dict") (rND X.K dictD) := CallR.imp (call_dictP hc) fun xs H Q ⟨c, S, ds, r, hr, hd, ho, q⟩ => by
  unfold dictD at ho
  split at ho
  · obtain ⟨ps, h1, rfl⟩ := Option.map_eq_some_iff.mp ho
    obtain ⟨u, rfl, h⟩ := hd.one
    obtain ⟨a, vs, rfl, h2, h3, h4⟩ := h.list
    obtain ⟨as, kvs, rfl, hp, hk⟩ := prs_rep (Ω := X.K) h4 h1
    refine ⟨a, as, kvs, rfl, h2, hp, fun p hn => q c _ _ (Nx.new hr hn) ?_⟩
    have hlen : (mergeK [] kvs).length ≤ sizeLine := by
      refine Nat.le_trans (length_mergeK kvs []) ?_
      rw [List.length_nil, Nat.zero_add, ← hp.length]
      simpa using h3
    exact .dic (fun z => by obtain ⟨o, q⟩ := hr.tr p z; rw [hn] at q; cases q) (.inl upd_same) hlen (RepK.keep ((Nx.new hr hn).kp hr) _ _ (merge_rep hk .nil))
  · cases ho
end
end DL

namespace DL
open PySem PySem.Spec PyProof.Rows L2
/-! ### except x as n: the exception is noted as an object of ours -/
section
variable {X : Cx} {pins : List (Addr × Obj)} {σ : L2.St} {H : Hp} {s : Shared}
/-- an object that stands untracked, younger than the entry, is tracked from now on -/
theorem inv_track {a : Addr} {o : HO} (I : Inv X pins σ H s) (hn : H a = none) (h0 : X.s_0.heap.get? a = none) (nL : a ≠ X.env.locals) (nC : ∀ x c, X.env.cells.lookup x = some c → a ≠ c) (nP : ∀ p ∈ X.pn ++ pins, p.1 ≠ a) (new : ObjOk X.prog X.w (upd H a o) s.heap a o) : Inv X pins σ (upd H a o) s where
  ok := I.ok
  os := I.os
  bare := I.bare
  base := ⟨I.base.keep, I.base.slot, fun b u e n x => by rw [upd_ne fun z => by rw [z, h0] at e; cases e]; exact I.base.free b u e n x, I.base.there,
    fun b xs e => by have q := I.base.tups b xs e; rw [upd_ne (ne_of_none q hn)]; exact q,
    fun b u xs e => by have q := I.base.frzs b u xs e; rw [upd_ne (ne_of_none q hn)]; exact q,
    fun b ps e => by obtain ⟨m, q⟩ := I.base.tbls b ps e; exact ⟨m, by rw [upd_ne (ne_of_none q hn)]; exact q⟩⟩
  loc := I.loc
  cell := I.cell
  free := by rw [upd_ne (Ne.symm nL)]; exact I.free
  freeC := fun x c e => by rw [upd_ne (Ne.symm (nC x c e))]; exact I.freeC x c e
  pin := fun p hp => by
    obtain ⟨a1, a2, a3⟩ := I.pin p hp
    exact ⟨a1, by rw [upd_ne (nP p hp)]; exact a2, a3⟩
  hok := I.hok.laidN (fun _ _ e => e) hn new
  len := I.len
theorem inv_suite {a : Addr} (I : Inv X pins σ H s) : Inv (X.suite a (X.pn ++ pins)) [] σ H s :=
  ⟨I.ok.suite _ _, I.os, I.bare, I.base, I.loc, I.cell, I.free, I.freeC, fun p hp => I.pin p (by rw [List.append_nil] at hp; exact hp), I.hok, I.len⟩
theorem inv_unsuite {a : Addr} {pn' : List (Addr × Obj)} (I : Inv (X.suite a (X.pn ++ pins)) pn' σ H s) (ok : X.Ok) : Inv X pins σ H s :=
  ⟨ok, I.os, I.bare, I.base, I.loc, I.cell, I.free, I.freeC, fun p hp => I.pin p (List.mem_append_left _ hp), I.hok, I.len⟩
end
/-- what is wished behind the clause; slot i is the name's -/
def dAs (i : Nat) (D : Ends) : Ends := { nx := fun σ' H' => D.nx (σ'.set i none) H', rt := D.rt, bk := fun σ' H' => D.bk (σ'.set i none) H', ct := fun σ' H' => D.ct (σ'.set i none) H' }
def wAsT (K : PySem.W.Frag) (c : Value) (i : Nat) (ts : TS) (Wout : WX) (D : Ends) : WX := fun cls d σ H =>
  ∃ b, PySem.W.exmOne K cls c = some b ∧ (b = true → ∀ a, H a = none → ts (dAs i D) (σ.set i (some (.ref a))) (upd H a (ExC cls d a))) ∧ (b = false → Wout cls d σ H)
section
variable {X : Cx} {x n : Str} {c : Value} {i : Nat} {body suite : List Stmt} {b₀ : Stmt} {np pos pos' : Pos} {tb : WX → TS} {ts : TS} {Wout : WX}
theorem ps_try_noted (hs : X.stack = X.env :: X.outer) (hf : X.env.frame = some X.env.locals) (hN : X.N.Nodup) (hi : X.N[i]? = some n) (hln : X.env.kindOf n = some .local) (hc : Names X x c) (hex : X.ex = []) (tk : Takes X Wout)
    (hb : ∀ (W : WX) (pn : List (Addr × Obj)) (xe : Value → Shared → Prop), Takes (X.tr pn xe) W → PassesOwn (model X.prog X.w) X.A X.env xe → PSs (X.tr pn xe) body (tb W))
    (hsu : ∀ (a : Addr) (pn : List (Addr × Obj)), PSs (X.suite a pn) (b₀ :: suite) ts) :
    PS X (.Try body [.ExceptHandler (some (.Name x np)) (some n) (b₀ :: suite) pos'] [] [] pos) (fun D σ H => tb (wAsT X.K c i ts Wout D) D σ H) := by
  refine ⟨fun pins s σ H D I h => ?_⟩
  have ok := I.ok
  have hfr : X.A.frames = some (X.env :: X.outer) := by rw [ok.frames, hs]
  refine wpAny_Try_except (wpAny_mono ((hb (wAsT X.K c i ts Wout D) (X.pn ++ pins) (fun e s₁ => wpAny (model X.prog X.w) X.A (noteFrame e X.env) (fun _ s₂ => wpAny (model X.prog X.w) X.A (setFlight e none) (fun _ s₃ =>
    wpAny (model X.prog X.w) X.A (handleBy e X.env [.ExceptHandler (some (.Name x np)) (some n) (b₀ :: suite) pos']) (SP X pins D) X.xe s₃) X.xe s₂) X.xe s₁) (fun u s' xx => ?_) PassesOwn.looking).run [] s σ H D (I.toTry _) h) (fun f s1 hsp => ?_) (fun e s1 he => he))
  · obtain ⟨a, B, sI, pins', σ', H', cls, d, rfl, J', nb, up, sky, na, os, ag, b, hb1, hyes, hno⟩ := xx
    have J : Inv X pins σ' H' sI := J'.ofTry ok
    show wpAny (model X.prog X.w) X.A (noteFrame (.ref a) X.env) _ _ _
    refine Sky.land Zc.steady hfr hf (by rw [← hs]; exact sky) fun h3 fl3 up3 => ?_
    have J3 : Inv X pins σ' H' { s' with heap := h3 } := J.landed nb fl3.1 (up.trans up3) os ag
    obtain ⟨oe3, vs3, he3, hz3, hd3⟩ := fl3.there
    -- the exception is no frame, and was not there at the entry
    have far : ∀ b' o', sI.heap.get? b' = some o' → b' ∉ frs X.stack → b' ≠ a := fun b' o' e' nf z => by
      have := nb b' o' e' nf
      rw [z, fl3.2.1] at this; cases this
    have nfr : a ∉ frs X.stack := fun hm => by
      rw [hs] at hm
      obtain ⟨_, o', e', hnf⟩ := fl3.2.2.1.mem hm
      rw [he3] at e'; cases e'
      exact hnf _ hd3
    have nL : a ≠ X.env.locals := fun z => nfr (by rw [hs]; exact List.mem_filterMap.mpr ⟨X.env, List.mem_cons_self, by rw [hf, z]⟩)
    have nX : a ∉ X.ex → X.s_0.heap.get? a = none := fun nx => by
      cases q : X.s_0.heap.get? a with
      | none => rfl
      | some o' =>
        obtain ⟨o2, e2⟩ := J.base.there a o' q nx
        exact absurd rfl (far a o2 e2 nfr)
    refine wpAny_handleBy_cons (codeAny_handlers_test ?_) (by intro q; cases q)
    have LT : PySem.W.Looks (model X.prog X.w) h3 (typeOf (.ref a)) cls := fun A Q E s k q => wpAny_typeOf_ref (k _ _ he3) (by rw [hz3.1]; exact q)
    have LM := PySem.W.exm_one (M := model X.prog X.w) (J3.kIn) LT hb1
    have test : ∀ {Q : Value → Shared → Prop} {E : Value → Shared → Prop}, Q c { s' with heap := h3 } → wpAny (model X.prog X.w) (X.A.mark (some (.ref a))) (eval (.Name x np) X.env) Q E { s' with heap := h3 } := fun {Q E} q => by
      obtain ⟨hg, hdbg, hm | ⟨hm, hv, hnn⟩⟩ := hc
      · exact ld_glob (X := X.suite a (X.pn ++ pins)) (inv_suite J3) hg hm q hdbg
      · exact ld_blt (X := X.suite a (X.pn ++ pins)) (inv_suite J3) hg hm hv q hnn hdbg
    refine test (LM.here ?_)
    cases b with
    | true =>
      refine codeAny_handlers_suite_as (HandSPX.lands_againZ fl3 fun h4 fl4 up4 => ?_)
      have J4 : Inv X pins σ' H' { s' with heap := h4 } := J.landed nb fl4.1 ((up.trans up3).trans up4) os ag
      obtain ⟨oe4, vs4, he4, hz4, hd4⟩ := fl4.there
      have T4 : Inv X pins σ' (upd H' a (ExC cls d a)) { s' with heap := h4 } := inv_track J4 na (nX (by rw [hex]; simp)) nL (fun y c' e z => by
        obtain ⟨w, o, e1, e2⟩ := J4.cell y c' e
        rw [← z] at e1
        rw [show h4.get? a = some o from e1] at he4
        cases he4
        rw [e2] at hd4; cases hd4) (fun p hp => by
        obtain ⟨e1, _, e3, e4, _⟩ := J.pin p hp
        refine far p.1 p.2 e1 fun hm => ?_
        rw [hs] at hm
        obtain ⟨v, hv, q⟩ := List.mem_filterMap.mp hm
        rcases List.mem_cons.mp hv with rfl | hv
        · rw [hf] at q; injection q with q; exact e3 q.symm
        · exact e4 (List.mem_filterMap.mpr ⟨v, hv, q⟩)) ⟨⟨oe4, vs4, he4, hz4, hd4⟩, ⟨oe4, he4⟩, fun _ _ ⟨o, v, q, r⟩ k => ⟨o, v, k o q, r⟩⟩
      refine store_ok (X := X.suite a (X.pn ++ pins)) (v := .ref a) (inv_suite T4) hN hi (.inl hln) rfl (fun s5 S5 => ?_) (.inr hln)
      refine wpAny_mono ((hsu a (X.pn ++ pins)).run [] s5 _ _ _ S5 (hyes rfl a na)) (fun f s6 hsp => ?_) (fun _ _ z => False.elim z)
      cases f with
      | next =>
        obtain ⟨σ6, H6, S6, q6⟩ := hsp
        exact gone_ok (inv_unsuite S6 ok) hN hi hln fun s7 J7 => ⟨_, _, J7, q6⟩
      | brk =>
        obtain ⟨σ6, H6, S6, q6⟩ := hsp
        exact gone_ok (inv_unsuite S6 ok) hN hi hln fun s7 J7 => ⟨_, _, J7, q6⟩
      | cont =>
        obtain ⟨σ6, H6, S6, q6⟩ := hsp
        exact gone_ok (inv_unsuite S6 ok) hN hi hln fun s7 J7 => ⟨_, _, J7, q6⟩
      | ret u =>
        obtain ⟨v6, σ6, H6, S6, r6, q6⟩ := hsp
        exact gone_ok (inv_unsuite S6 ok) hN hi hln fun s7 J7 => ⟨_, _, _, J7, r6, q6⟩
    | false =>
      show wpAny _ X.A (handleBy (.ref a) X.env []) _ _ _
      refine wpAny_handleBy_nil ?_
      obtain ⟨k1, k2, k3, oe, vs, T, oT, ts', he, hz, hd, h1, hr⟩ := id fl3
      unfold PySem.passOn
      refine wpAny_bind (wpAny_field he hd h1 ?_)
      rw [if_neg (show ¬ ((Value.ref T == Value.none) = true) from by simp)]
      have fin : wpAny (model X.prog X.w) X.A (setFlight (.ref a) X.env.frame) (fun _ s4 => wpAny (model X.prog X.w) X.A (throw (.ref a) : Sem PySem.Flow) (SP X pins D) X.xe s4) X.xe { s' with heap := h3 } := by
        rw [hf]
        refine HandSPX.setFlight_upZ fl3 fun h4 hh4 up4 => wpAny_throw (tk _ _ ?_)
        exact ⟨a, B, sI, pins, σ', H', cls, d, rfl, J, nb, (up.trans up3).trans up4, .inr (.inr (by rw [hs]; exact hh4)), na, os, ag, hno rfl⟩
      first
        | exact wpAny_bind (wpAny_pure (wpAny_bind fin))
        | exact wpAny_bind fin
  · cases f with
    | next =>
      obtain ⟨σ', H', J', q⟩ := hsp
      exact wpAny_execs_nil ⟨σ', H', J'.ofTry ok, q⟩
    | brk =>
      obtain ⟨σ', H', J', q⟩ := hsp
      exact ⟨σ', H', J'.ofTry ok, q⟩
    | cont =>
      obtain ⟨σ', H', J', q⟩ := hsp
      exact ⟨σ', H', J'.ofTry ok, q⟩
    | ret u =>
      obtain ⟨v, σ', H', J', r, q⟩ := hsp
      exact ⟨v, σ', H', J'.ofTry ok, r, q⟩
end
/-! ### the rule for statements -/
def unsetF (i : Nat) (r : R Flow) : R Flow := match r with
  | .ok (.nx ρ) S => .ok (.nx (ρ.set i none)) S
  | .ok (.bk ρ) S => .ok (.bk (ρ.set i none)) S
  | .ok (.ct ρ) S => .ok (.ct (ρ.set i none)) S
  | .ok (.ex _ _) _ => .bad
  | r => r
/-- try: body except x as n: suite; slot i is n's, m tells of a class whether it is caught -/
def sTryE (m : Str → Option Bool) (i : Nat) (g h : Blk) : Blk := fun ρ S => match g ρ S with
  | .ok (.ex x ρ') S' => match m x.cls with
    | some true => unsetF i (h (ρ'.set i (some (.er x))) S')
    | some false => .ok (.ex x ρ') S'
    | none => .bad
  | r => r
theorem RepE.unset {Ω : PySem.W.Frag} {c : Cor Ω} {H : Hp} {ρ : Ev} {σ : L2.St} (e : RepE c H ρ σ) (i : Nat) : RepE c H (ρ.set i none) (σ.set i none) := by
  refine ⟨by simpa using e.len, fun j w hj => ?_⟩
  by_cases q : i = j
  · subst q
    by_cases hl : i < ρ.length
    · rw [List.getElem?_set_self hl] at hj; cases hj
    · rw [List.getElem?_eq_none (by simpa using hl)] at hj; cases hj
  · rw [List.getElem?_set_ne q] at hj
    obtain ⟨u, h1, h2⟩ := e.at' j w hj
    exact ⟨u, by rw [List.getElem?_set_ne q]; exact h1, h2⟩
section
variable {X : Cx} {W : WX} {pos : Pos}
theorem ss_tryE {x n : Str} {cv : Value} {i : Nat} {body suite : List Stmt} {b₀ : Stmt} {np pos' : Pos} {m : Str → Option Bool} {g h : Blk} (hs : X.stack = X.env :: X.outer) (hf : X.env.frame = some X.env.locals) (hN : X.N.Nodup) (hi : X.N[i]? = some n) (hln : X.env.kindOf n = some .local) (hc : Names X x cv) (hex : X.ex = []) (tk : Takes X W)
    (hm : ∀ y b C, m y = some b → X.mg y = some (.ref C) → PySem.W.exmOne X.K (.ref C) cv = some b)
    (hns : ∀ y C, m y = some true → X.mg y = some (.ref C) → PySem.W.nsIn X.K mainGlobals y = some (some (.ref C)))
    (hb : ∀ (W : WX) (pn : List (Addr × Obj)) (xe : Value → Shared → Prop), Takes (X.tr pn xe) W → PassesOwn (model X.prog X.w) X.A X.env xe → SSs (X.tr pn xe) W body g)
    (hsu : ∀ (a : Addr) (pn : List (Addr × Obj)), SSs (X.suite a pn) W0 (b₀ :: suite) h) :
    SS X W (.Try body [.ExceptHandler (some (.Name x np)) (some n) (b₀ :: suite) pos'] [] [] pos) (sTryE m i g h) :=
  PS.imp (ps_try_noted (tb := fun W => tS X.K X.mg W g) (ts := tS X.K X.mg W0 h) hs hf hN hi hln hc hex tk hb hsu) fun D σ H ⟨c, ρ, S, hr, he, q⟩ => by
    refine ⟨c, ρ, S, hr, he, ?_⟩
    unfold sTryE at q
    revert q
    cases g ρ S with
    | ok fl S' =>
      cases fl with
      | nx ρ' => exact fun q => q
      | bk ρ' => exact fun q => q
      | ct ρ' => exact fun q => q
      | rt v => exact fun q => q
      | ex y ρ' =>
        intro q c' σ' H' cls d x1 e1 hx
        obtain ⟨C, h1, rfl, rfl⟩ := hx
        cases e : m y.cls with
        | none => simp only [e] at q; exact q.elim
        | some b =>
          refine ⟨b, hm y.cls b C e h1, fun hb a ha => ?_, fun hb => ?_⟩
          · subst hb
            simp only [e] at q
            have nw := Nx.new (o := ExC (.ref C) none a) x1.rel ha
            refine ⟨c', ρ'.set i (some (.er y)), S', nw.rel, (e1.keep x1.rel nw).set (v := .er y) ⟨a, C, rfl, (fun z => by obtain ⟨o, q⟩ := x1.rel.tr a z; rw [ha] at q; cases q), hns y.cls C e h1, upd_same⟩ i, ?_⟩
            have q1 := AftS.later hr (Nx.trans hr x1 nw) q
            revert q1
            cases h (ρ'.set i (some (.er y))) S' with
            | bad => exact fun q => q
            | exc _ _ => exact fun q => q
            | ok fl S2 =>
              cases fl with
              | ex _ _ => exact fun q => q.elim
              | nx ρ2 => exact fun q c2 σ2 H2 x2 e2 => q c2 _ H2 x2 (e2.unset i)
              | bk ρ2 => exact fun q c2 σ2 H2 x2 e2 => q c2 _ H2 x2 (e2.unset i)
              | ct ρ2 => exact fun q c2 σ2 H2 x2 e2 => q c2 _ H2 x2 (e2.unset i)
              | rt v => exact fun q => q
          · subst hb
            simp only [e] at q
            exact q c' σ' H' _ none x1 e1 ⟨C, h1, rfl, rfl⟩
    | exc x S' => exact fun q => q
    | bad => exact fun q => q
end
/-! ### isinstance of a caught error -/
def rIsC (K : PySem.W.Frag) : List V → Hp → VK → Prop := fun xs H Q => ∃ (a D : Addr) (c : V) (u : Value) (b : Bool), xs = [.ref a, c] ∧ H a = some (ExC (.ref D) none a) ∧ ExcC K D ∧ ClsV c u ∧ PySem.W.kitOne K (.ref D) u = some b ∧ Q (.bl b) H
theorem call_isC {X : Cx} : CallR X (.builtin "isinstance") (rIsC X.K) := by
  intro pins s σ H xs us Q I r h
  obtain ⟨a, D, c, u, b, rfl, ha, C, k, e, q⟩ := h
  obtain ⟨u1, u2, rfl, r1, r2⟩ := vals2 r
  have e2 := k.eq r2
  subst e2
  cases (show u1 = Value.ref a from r1)
  obtain ⟨⟨oe, vs, g1, ⟨g2, g3⟩, g4⟩, _⟩ := (show ObjOk X.prog X.w H s.heap a (ExC (.ref D) none a) from I.hok a _ ha)
  have J : PySem.W.InstAt s.heap a oe D none := by
    obtain ⟨oc, od, oda, osl⟩ := oe
    dsimp only at g2 g3 g4
    subst g2 g3 g4
    exact ⟨g1, rfl, rfl, trivial⟩
  exact PySem.W.kia_one (PySem.W.handS_kitx_exc C.hg C.hk C.hs C.hd C.ha C.hn C.ht C.hm) I.kIn J e (fun z => nomatch z) fun tk => ⟨.bl b, H, I.tok tk, rfl, q⟩
/-- isinstance(e, C), e a caught error; m tells of the classes that may be -/
def eIsE (m : Str → Option Bool) (f : Ex) : Ex := fun ρ S => (f ρ S).bind fun v S1 => match v with
  | .er x => match m x.cls with
    | some b => .ok (.d (.bool b)) S1
    | none => .bad
  | _ => .bad
section
variable {X : Cx} {W : WX}
theorem isE_r {m : Str → Option Bool} {u : Value} {cv : V} {f : Ex} {σ : L2.St} {H : Hp} {Q : VK} (hcl : ClsV cv u)
    (hm : ∀ y b C, m y = some b → PySem.W.nsIn X.K mainGlobals y = some (some (.ref C)) → ExcC X.K C ∧ PySem.W.kitOne X.K (.ref C) u = some b)
    (h : tE X.K X.mg W (eIsE m f) σ H Q) : tE X.K X.mg W f σ H fun x H1 => rIsC X.K [x, cv] H1 Q := by
  obtain ⟨c, ρ, S, hr, he, q⟩ := h
  refine ⟨c, ρ, S, hr, he, (Aft.bind hr q).mono fun v c1 S1 H1 x1 h1 w hw => ?_⟩
  cases v with
  | d _ => exact h1.elim
  | loc _ => exact h1.elim
  | scr _ => exact h1.elim
  | er x =>
    obtain ⟨a, C, rfl, n1, n2, n3⟩ := hw
    cases e : m x.cls with
    | none => simp only [e] at h1; exact h1.elim
    | some b =>
      simp only [e] at h1
      obtain ⟨k1, k2⟩ := hm x.cls b C e n2
      exact ⟨a, C, cv, u, b, rfl, n3, k1, hcl, k2, h1 c1 H1 (Nx.refl x1.rel) _ (.bl _)⟩
end
end DL

namespace DL
open PySem PySem.Spec PyProof.Rows L2
section
variable {X : Cx} {W : WX}
/-- a, b = x, y where a name is captured: the pair is laid, then taken apart -/
theorem ss_parC {i j : Nat} {f : La} {st : Stmt} (h : PS X st (tAsg (tTup (tA X.K X.mg W f)) (gTup X.K 2 (gCons (gName i) (gCons (gName j) gNil))))) : SS X W st (sPar [i, j] f) := PS.imp h fun D σ H ⟨c, ρ, S, hr, he, q⟩ => by
  refine ⟨c, ρ, S, hr, he, (Aft.st hr he q).mono fun vs c1 S1 H1 x1 h1 us hus => ?_⟩
  split at h1
  · rename_i hl
    match vs, us, hus, hl with
    | [v, w], [x, y], .cons hv (.cons hw .nil), _ =>
      refine ⟨by rw [sizeLine_eq]; show 2 ≤ 16777216; decide, fun p hp => ⟨p, [x, y], rfl, SqT.of upd_same, rfl, x, [y], rfl, y, [], rfl, rfl, ?_⟩⟩
      have n := Nx.new (o := .tup [x, y]) x1.rel hp
      exact h1 c1 _ _ n ((((he.keep hr x1).keep x1.rel n).set (hv.keep x1.rel n) i).set (hw.keep x1.rel n) j)
  · exact h1.elim
end
end DL

namespace DL
open PySem PySem.Spec PyProof.Rows L2
/-! ### x is None, x whatever -/
def isNV : Val → Bool
  | .d .none => true
  | _ => false
def eIsNV (neg : Bool) (f : Ex) : Ex := fun ρ S => (f ρ S).bind fun v S1 => .ok (.d (.bool (neg ^^ isNV v))) S1
theorem isNV_of {c : Cor Ω} {H : Hp} {v : Val} {u : V} (h : VRep c H v u) : decide (u = .non) = isNV v := by
  cases v with
  | d x => cases (h : Rep c.A H x u) <;> simp [isNV]
  | loc n => obtain ⟨a, _, rfl⟩ := h; simp [isNV]
  | scr ds => obtain ⟨a, vs, rfl, _⟩ := h; simp [isNV]
  | er x => obtain ⟨a, C, rfl, _⟩ := h; simp [isNV]
section
variable {X : Cx} {W : WX} {pos : Pos}
theorem se_isN {a : Expr} {f : Ex} {j p} (ha : SE X W a f) : SE X W (.Compare a [.Is] [.Constant .none j p] pos) (eIsNV false f) :=
  PE.imp (pe_cmpR op_isN ha pe_non rfl) fun σ H Q ⟨c, ρ, S, hr, he, q⟩ => by
    refine ⟨c, ρ, S, hr, he, (Aft.bind hr q).mono fun v c1 S1 H1 x1 h1 u hu => ?_⟩
    refine ⟨rfl, ?_⟩
    rw [isNV_of hu]
    simp only [Bool.false_xor] at h1
    exact h1 c1 H1 (Nx.refl x1.rel) _ (.bl _)
theorem se_isnN {a : Expr} {f : Ex} {j p} (ha : SE X W a f) : SE X W (.Compare a [.IsNot] [.Constant .none j p] pos) (eIsNV true f) :=
  PE.imp (pe_cmpR op_notN ha pe_non rfl) fun σ H Q ⟨c, ρ, S, hr, he, q⟩ => by
    refine ⟨c, ρ, S, hr, he, (Aft.bind hr q).mono fun v c1 S1 H1 x1 h1 u hu => ?_⟩
    refine ⟨rfl, ?_⟩
    rw [isNV_of hu]
    simp only [Bool.true_xor] at h1
    exact h1 c1 H1 (Nx.refl x1.rel) _ (.bl _)
theorem st_isN {a : Expr} {f : Ex} {j p} (ha : SE X W a f) : ST X W (.Compare a [.Is] [.Constant .none j p] pos) (tOf (eIsNV false f)) :=
  PT.imp (pt_cmpR op_isN ha pe_non rfl) fun σ H Q ⟨c, ρ, S, hr, he, q⟩ => by
    refine ⟨c, ρ, S, hr, he, (Aft.bind hr (Aft.bind hr q)).mono fun v c1 S1 H1 x1 h1 u hu => ?_⟩
    refine ⟨rfl, _, rfl, ?_⟩
    rw [isNV_of hu]
    simp only [Bool.false_xor] at h1
    exact (h1 c1 H1 (Nx.refl x1.rel)) c1 H1 (Nx.refl x1.rel)
theorem st_isnN {a : Expr} {f : Ex} {j p} (ha : SE X W a f) : ST X W (.Compare a [.IsNot] [.Constant .none j p] pos) (tOf (eIsNV true f)) :=
  PT.imp (pt_cmpR op_notN ha pe_non rfl) fun σ H Q ⟨c, ρ, S, hr, he, q⟩ => by
    refine ⟨c, ρ, S, hr, he, (Aft.bind hr (Aft.bind hr q)).mono fun v c1 S1 H1 x1 h1 u hu => ?_⟩
    refine ⟨rfl, _, rfl, ?_⟩
    rw [isNV_of hu]
    simp only [Bool.true_xor] at h1
    exact (h1 c1 H1 (Nx.refl x1.rel)) c1 H1 (Nx.refl x1.rel)
end
/-! ### isinstance(e, C), isinstance(e, (C1, C2, ..)), e a caught error -/
/-- what is known of an own error class, so that it may be asked -/
structure ErT (K : PySem.W.Frag) (x : Str) (C : Addr) : Prop where
  n : PySem.W.nsIn K mainGlobals x = some (some (.ref C))
  c : ExcC K C
/-- tables of classes: told of each class whether it is one of those -/
def TabA (K : PySem.W.Frag) (us : List Value) (tab : List (Str × Bool)) : Prop := ∀ p ∈ tab, ∀ C, PySem.W.nsIn K mainGlobals p.1 = some (some (.ref C)) → ExcC K C ∧ PySem.W.kitAny K (.ref C) us = some p.2
theorem tabA_nil {K : PySem.W.Frag} {us : List Value} : TabA K us [] := fun p hp => by cases hp
theorem tabA_one {K : PySem.W.Frag} {us : List Value} {x : Str} {b : Bool} {C0 : Addr} (T : ErT K x C0) (h : PySem.W.kitAny K (.ref C0) us = some b) {tab : List (Str × Bool)} (ht : TabA K us tab) : TabA K us ((x, b) :: tab) := fun p hp C hc => by
  rcases List.mem_cons.mp hp with rfl | hp
  · rw [T.n] at hc; cases hc; exact ⟨T.c, h⟩
  · exact ht p hp C hc
theorem mTab_mem : ∀ {tab : List (Str × Bool)} {y : Str} {b : Bool}, mTab tab y = some b → (y, b) ∈ tab
  | [], y, b, h => by cases h
  | (x, k) :: tab, y, b, h => by
    unfold mTab at h
    rw [List.lookup_cons] at h
    by_cases e : (y == x) = true
    · rw [e] at h
      cases h
      have e' : y = x := eq_of_beq e
      subst e'
      exact List.mem_cons_self
    · rw [Bool.eq_false_iff.mpr e] at h
      exact List.mem_cons_of_mem _ (mTab_mem (tab := tab) h)
theorem any_nil {K : PySem.W.Frag} {t : Value} : PySem.W.kitAny K t [] = some false := rfl
theorem any_no {K : PySem.W.Frag} {t c : Value} {r : List Value} {b : Bool} (h : PySem.W.kitOne K t c = some false) (h2 : PySem.W.kitAny K t r = some b) : PySem.W.kitAny K t (c :: r) = some b := by
  unfold PySem.W.kitAny; rw [h]; exact h2
theorem any_yes {K : PySem.W.Frag} {t c : Value} {r : List Value} (h : PySem.W.kitOne K t c = some true) : PySem.W.kitAny K t (c :: r) = some true := by
  unfold PySem.W.kitAny; rw [h]
theorem any_one {K : PySem.W.Frag} {t c : Value} {b : Bool} (h : PySem.W.kitAny K t [c] = some b) : PySem.W.kitOne K t c = some b := by
  unfold PySem.W.kitAny at h
  split at h
  · rename_i q; rw [q]; exact h
  · rename_i q; rw [q]; exact h
  · cases h
section
variable {X : Cx} {W : WX}
theorem se_isE {tab : List (Str × Bool)} {e : Expr} {f : Ex} {x : Str} {C : Addr} {p q pos : Pos} (ht : TabA X.K [.ref C] tab) (he : SE X W e f) (hg : Gl X "isinstance") (hm : X.mg "isinstance" = none) (hg2 : Gl X x) (hm2 : X.mg x = some (.ref C))
    (hdb : (x == ("__debug__" : Str)) = false := by decide)
    (hs : starEach (e :: [.Name x q]) X.env = (false, eval e X.env) :: starEach [.Name x q] X.env := by rfl) (hs2 : starEach [.Name x q] X.env = (false, eval (.Name x q) X.env) :: starEach [] X.env := by rfl) (hpl : (backTo pos (starEach [.Name x q] X.env)).any (·.1) = false := by rfl) :
    SE X W (.Call (.Name "isinstance" p) [e, .Name x q] [] pos) (eIsE (mTab tab) f) :=
  PE.imp (pe_callB call_isC hg hm (by decide +kernel) (pa_cons he (pa_cons (pe_glob (v := .ref C) hg2 hm2 rfl hdb) pa_nil hs2) hs) (by decide) (by decide) hs hpl) fun σ H Q h =>
    isE_r (.own C) (fun y b D e1 e2 => let ⟨k1, k2⟩ := ht _ (mTab_mem e1) D e2; ⟨k1, any_one k2⟩) h
theorem se_isEB {tab : List (Str × Bool)} {e : Expr} {f : Ex} {x : Str} {T : String} {p q pos : Pos} (ht : TabA X.K [.type T] tab) (he : SE X W e f) (hg : Gl X "isinstance") (hm : X.mg "isinstance" = none) (hg2 : Gl X x) (hm2 : X.mg x = none) (hv : bootBuiltins x = some (.type T))
    (hn : x ≠ "__name__" := by decide) (hdb : (x == ("__debug__" : Str)) = false := by decide)
    (hs : starEach (e :: [.Name x q]) X.env = (false, eval e X.env) :: starEach [.Name x q] X.env := by rfl) (hs2 : starEach [.Name x q] X.env = (false, eval (.Name x q) X.env) :: starEach [] X.env := by rfl) (hpl : (backTo pos (starEach [.Name x q] X.env)).any (·.1) = false := by rfl) :
    SE X W (.Call (.Name "isinstance" p) [e, .Name x q] [] pos) (eIsE (mTab tab) f) :=
  PE.imp (pe_callB call_isC hg hm (by decide +kernel) (pa_cons he (pa_cons (pe_bltn (v := .ty T) hg2 hm2 hv rfl hn hdb) pa_nil hs2) hs) (by decide) (by decide) hs hpl) fun σ H Q h =>
    isE_r (.ty T) (fun y b D e1 e2 => let ⟨k1, k2⟩ := ht _ (mTab_mem e1) D e2; ⟨k1, any_one k2⟩) h
/-! tuples of classes -/
def rIsCT (K : PySem.W.Frag) : List V → Hp → VK → Prop := fun xs H Q => ∃ (a D tp : Addr) (cs : List V) (us : List Value) (b : Bool), xs = [.ref a, .ref tp] ∧ H tp = some (.tup cs) ∧ Paired ClsV cs us ∧ H a = some (ExC (.ref D) none a) ∧ ExcC K D ∧ PySem.W.kitAny K (.ref D) us = some b ∧ Q (.bl b) H
theorem call_isCT : CallR X (.builtin "isinstance") (rIsCT X.K) := by
  intro pins s σ H xs us Q I r h
  obtain ⟨a, D, tp, cs, ws, b, rfl, hT, k, ha, C, e, q⟩ := h
  obtain ⟨u1, u2, rfl, r1, r2⟩ := vals2 r
  cases (show u2 = Value.ref tp from r2)
  cases (show u1 = Value.ref a from r1)
  obtain ⟨_, its, rv, o, h1, h2, n, h3⟩ := (show ObjOk X.prog X.w H s.heap tp (.tup cs) from I.hok tp _ hT)
  have e3 := ClsV.all k rv
  subst e3
  obtain ⟨oc, od, dt, sl⟩ := o
  simp only at h2 h3
  subst h2 h3
  obtain ⟨⟨oe, vs, g1, ⟨g2, g3⟩, g4⟩, _⟩ := (show ObjOk X.prog X.w H s.heap a (ExC (.ref D) none a) from I.hok a _ ha)
  have J : PySem.W.InstAt s.heap a oe D none := by
    obtain ⟨oc, od, oda, osl⟩ := oe
    dsimp only at g2 g3 g4
    subst g2 g3 g4
    exact ⟨g1, rfl, rfl, trivial⟩
  exact PySem.W.kia_tup (PySem.W.handS_kitx_exc C.hg C.hk C.hs C.hd C.ha C.hn C.ht C.hm) I.kIn J h1 e (fun z => nomatch z) fun tk => ⟨.bl b, H, I.tok tk, rfl, q⟩
/-- classes one behind the other -/
structure PClsA (X : Cx) (es : List Expr) (cs : List V) (us : List Value) : Prop where
  a : PA X es (fun _ H Q => Q cs H)
  p : Paired ClsV cs us
  l : cs.length ≤ sizeLine
theorem pcl_nil : PClsA X [] [] [] := ⟨pa_nil, .nil, by decide⟩
theorem pcl_one {x : Str} {C : Addr} {q : Pos} {es : List Expr} {cs : List V} {us : List Value} (hg2 : Gl X x) (hm2 : X.mg x = some (.ref C)) (h : PClsA X es cs us) (hl : ((V.ref C) :: cs).length ≤ sizeLine := by exact Nat.le_of_ble_eq_true rfl) (hdb : (x == ("__debug__" : Str)) = false := by decide)
    (hs : starEach (.Name x q :: es) X.env = (false, eval (.Name x q) X.env) :: starEach es X.env := by rfl) : PClsA X (.Name x q :: es) (.ref C :: cs) (.ref C :: us) :=
  ⟨pa_cons (pe_glob (v := .ref C) hg2 hm2 rfl hdb) h.a hs, .cons (.own C) h.p, hl⟩
theorem se_isET {tab : List (Str × Bool)} {e : Expr} {f : Ex} {es : List Expr} {x1} {cs : List V} {us : List Value} {p q pos : Pos} (ht : TabA X.K us tab) (he : SE X W e f) (hg : Gl X "isinstance") (hm : X.mg "isinstance" = none) (hc : PClsA X es cs us)
    (hs : starEach (e :: [.Tuple es x1 q]) X.env = (false, eval e X.env) :: starEach [.Tuple es x1 q] X.env := by rfl) (hs2 : starEach [.Tuple es x1 q] X.env = (false, eval (.Tuple es x1 q) X.env) :: starEach [] X.env := by rfl) (hpl : (backTo pos (starEach [.Tuple es x1 q] X.env)).any (·.1) = false := by rfl) :
    SE X W (.Call (.Name "isinstance" p) [e, .Tuple es x1 q] [] pos) (eIsE (mTab tab) f) :=
  PE.imp (pe_callB call_isCT hg hm (by decide +kernel) (pa_cons he (pa_cons (pe_tup hc.a) pa_nil hs2) hs) (by decide) (by decide) hs hpl) fun σ H Q h => by
    obtain ⟨c, ρ, S, hr, he, q⟩ := h
    refine ⟨c, ρ, S, hr, he, (Aft.bind hr q).mono fun v c1 S1 H1 x1 h1 w hw => ?_⟩
    cases v with
    | d _ => exact h1.elim
    | loc _ => exact h1.elim
    | scr _ => exact h1.elim
    | er x =>
      obtain ⟨a, C, rfl, n1, n2, n3⟩ := hw
      cases e : mTab tab x.cls with
      | none => simp only [e] at h1; exact h1.elim
      | some b =>
        simp only [e] at h1
        obtain ⟨k1, k2⟩ := ht _ (mTab_mem e) C n2
        refine ⟨hc.l, fun tp htp => ?_⟩
        have nw := Nx.new (o := .tup cs) x1.rel htp
        refine ⟨a, C, tp, cs, us, b, rfl, upd_same, hc.p, ?_, k1, k2, h1 c1 _ nw _ (.bl _)⟩
        rw [upd_ne (fun z => by rw [z, htp] at n3; cases n3)]; exact n3
end
/-! ### xs.index(y), xs.count(y): flat items -/
def idxD : D → D → Option D
  | .list ys, x => if flatD x && ys.all flatD then (ys.findIdx? fun y => flatEq y x).map fun j => .int (j : Nat) else none
  | _, _ => none
def cntD : D → D → Option D
  | .list ys, x => if flatD x && ys.all flatD then some (.int ((ys.countP fun y => flatEq y x : Nat) : Int)) else none
  | _, _ => none
def eLm (op : D → D → Option D) (fo fe : Ex) : Ex := fun ρ S => (fo ρ S).bind fun v S1 => match look S1 v with
  | some (.list _) => (fe ρ S1).bind fun w S2 => op2 op v w S2
  | _ => .bad
section
variable {X : Cx} {W : WX}
theorem RepL.idx {A : Addr → Prop} {H : Hp} {x : D} {u : V} (fx : flatD x = true) (hx : Rep A H x u) : ∀ {ds : List D} {vs : List V}, RepL A H ds vs → ds.all flatD = true → ∀ {j : Nat}, (ds.findIdx? fun y => flatEq y x) = some j →
    (∃ z, vs[j]? = some z ∧ eqV z u = true) ∧ ∀ (m : Nat) (z' : V), m < j → vs[m]? = some z' → eqV z' u = false
  | _, _, .nil, _, j, h => by simp at h
  | _, _, .cons (d := d) (v := v) (ds := ds) g r, f, j, h => by
    rw [List.all_cons, Bool.and_eq_true] at f
    have e1 := flatEq_of f.1 fx g hx
    rw [List.findIdx?_cons] at h
    by_cases hd : flatEq d x = true
    · rw [if_pos hd] at h
      cases h
      exact ⟨⟨v, rfl, by rw [e1, hd]⟩, fun m z' hm => by omega⟩
    · rw [if_neg hd] at h
      obtain ⟨k, hk, rfl⟩ := Option.map_eq_some_iff.mp h
      obtain ⟨⟨z, z1, z2⟩, h3⟩ := RepL.idx fx hx r f.2 hk
      refine ⟨⟨z, by simpa using z1, z2⟩, fun m z' hm he => ?_⟩
      cases m with
      | zero => simp at he; subst he; rw [e1]; exact Bool.eq_false_iff.mpr hd
      | succ m => exact h3 m z' (by omega) (by simpa using he)
theorem mt_idx : MtR X "list.index" (fun x xs H Q => ∃ y, xs = [y] ∧ r2D X.K idxD x y H Q) := by
  intro pins s σ H x xs v us Q I rx rxs h
  obtain ⟨y, rfl, c, S, d, e, r, hr, hd, he, ho, q⟩ := h
  unfold idxD at ho
  split at ho
  · rename_i ys x0
    split at ho
    · rename_i hf
      rw [Bool.and_eq_true] at hf
      obtain ⟨j, hj, rfl⟩ := Option.map_eq_some_iff.mp ho
      obtain ⟨a, vs, rfl, h1, h2, h3⟩ := hd.list
      obtain ⟨⟨z, z1, z2⟩, z3⟩ := RepL.idx hf.1 (he.flat hf.1) h3 hf.2 hj
      exact mt_index pins s σ H _ _ v us Q I rx rxs ⟨a, vs, y, j, z, rfl, rfl, SqL.of h1, flat_of hf.1 (he.flat hf.1), all_flat h3 hf.2, z1, z2, z3, q c H _ (Nx.refl hr) (.int _)⟩
    · cases ho
  · cases ho
theorem RepL.cnt {A : Addr → Prop} {H : Hp} {x : D} {u : V} (fx : flatD x = true) (hx : Rep A H x u) : ∀ {ds : List D} {vs : List V} {us : List Value}, RepL A H ds vs → ds.all flatD = true → Vals vs us → us.countP (eqU u) = ds.countP fun y => flatEq y x
  | _, _, _, .nil, _, .nil => rfl
  | _, _, _, .cons (d := d) (v := v) (ds := ds) g r, f, .cons q t => by
    rw [List.all_cons, Bool.and_eq_true] at f
    rw [List.countP_cons, List.countP_cons, RepL.cnt fx hx r f.2 t, eqU_of q (flat_of f.1 g), flatEq_of f.1 fx g hx]
theorem mt_cnt : MtR X "list.count" (fun x xs H Q => ∃ y, xs = [y] ∧ r2D X.K cntD x y H Q) := by
  intro pins s σ H x xs v us Q I rx rxs h
  obtain ⟨y, rfl, c, S, d, e, r, hr, hd, he, ho, q⟩ := h
  unfold cntD at ho
  split at ho
  · rename_i ys x0
    split at ho
    · rename_i hf
      rw [Bool.and_eq_true] at hf
      cases ho
      obtain ⟨a, vs, rfl, h1, h2, h3⟩ := hd.list
      cases rx
      obtain ⟨uy, rfl, ry⟩ := rxs.one
      obtain ⟨its, rv, ⟨⟨cls, dd, data, sl⟩, n, ho, hc, hdn, hd⟩, hlen⟩ := I.list (SqL.of h1)
      simp only at hc hd
      subst hc hd
      refine call_meets PySem.F.slot_list_count ⟨_, ho, rfl⟩ PySem.F.entry_list_count (PySem.F.args_list_count_2 _ _)
        (SeqAt.list_countAt a its.toArray n dd sl uy (eqU y)) ⟨ho, fun u' hu' => mem_eqAt ry (flat_of hf.1 (he.flat hf.1)) rv (all_flat h3 hf.2) u' (by simpa using hu'), ?_⟩
      have ec := RepL.cnt hf.1 (he.flat hf.1) h3 hf.2 rv
      refine ⟨.int ((its.toArray.toList.countP (eqU y) : Nat) : Int), H, I.tok _, ⟨s.toks, rfl⟩, ?_⟩
      rw [show its.toArray.toList = its from rfl, ec]
      exact q c H _ (Nx.refl hr) (.int _)
    · cases ho
  · cases ho
theorem se_lm {id : String} {name : Str} {op : D → D → Option D} {o e : Expr} {fo fe : Ex} {apos pos : Pos} (slot : Slot "list" name id) (hty : typeOf (.builtin id) = pure (.type "method_descriptor")) (hm : MtR X id (fun x xs H Q => ∃ y, xs = [y] ∧ r2D X.K op x y H Q))
    (ho : SE X W o fo) (he : SE X W e fe) (hbase : attributeBase o name X.env (eval o X.env) = eval o X.env := by rfl)
    (hfew : ((backTo pos (starEach [e] X.env)).all (fun x => !x.1) && (backToKw pos (keywordEach [] X.env)).all (fun x => x.1.isSome)
      && decide ([e].length + ([] : List Keyword).length + (if ([] : List Keyword).isEmpty then 0 else 1) < 30)) = true := by rfl)
    (hline : (apos.endLine == pos.line) = true := by rfl) (hs : starEach [e] X.env = (false, eval e X.env) :: starEach [] X.env := by rfl) :
    SE X W (.Call (.Attribute o name apos) [e] [] pos) (eLm op fo fe) :=
  PE.imp (pe_bm PySem.F.plainAttrs_list slot hty hm ho (pa_cons he pa_nil hs) hbase hfew hline hs rfl) fun σ H Q ⟨c, ρ, S, hr, he, q⟩ => by
    refine ⟨c, ρ, S, hr, he, (Aft.bind hr q).mono fun v c1 S1 H1 x1 h1 u hu => ?_⟩
    split at h1
    · rename_i ys e1
      obtain ⟨a, vs, rfl, g1, g2, g3⟩ := (look_rep x1.rel hu e1).list
      refine ⟨.inl ⟨rfl, vs, SqL.of g1⟩, c1, ρ, S1, x1.rel, he.keep hr x1, (Aft.bind x1.rel h1).mono fun w c2 S2 H2 x2 h2 y hy => ?_⟩
      exact ⟨y, rfl, op2_r x2.rel (VRep.keep x1.rel x2 hu) hy h2⟩
    · exact h1.elim
end
theorem bt_ValueError : bootBuiltins "ValueError" = some (.type "ValueError") := by decide +kernel
/-- the classes of a table stand in the module -/
def TabN (K : PySem.W.Frag) (mg : Str → Option Value) (tab : List (Str × Bool)) : Prop := ∀ p ∈ tab, ∀ C, mg p.1 = some (.ref C) → PySem.W.nsIn K mainGlobals p.1 = some (some (.ref C))
theorem tabN_nil {K : PySem.W.Frag} {mg : Str → Option Value} : TabN K mg [] := fun p hp => by cases hp
theorem tabN_one {K : PySem.W.Frag} {mg : Str → Option Value} {x : Str} {b : Bool} {C0 : Addr} (hg : mg x = some (.ref C0)) (T : ErT K x C0) {tab : List (Str × Bool)} (ht : TabN K mg tab) : TabN K mg ((x, b) :: tab) := fun p hp C hc => by
  rcases List.mem_cons.mp hp with rfl | hp
  · rw [hg] at hc; cases hc; exact T.n
  · exact ht p hp C hc
theorem tabN_ok {K : PySem.W.Frag} {mg : Str → Option Value} {tab : List (Str × Bool)} (ht : TabN K mg tab) : ∀ y C, mTab tab y = some true → mg y = some (.ref C) → PySem.W.nsIn K mainGlobals y = some (some (.ref C)) := fun y C e1 e2 => ht _ (mTab_mem e1) C e2
end DL

namespace L2
open PySem PySem.Spec PyProof.Rows
theorem tuple_mul1 (l : Addr) (items : Array Value) (n : Nat) (dd : Option Addr) (sl : Array (Option Value)) (x : Int) (u : Tok) (c0 : (decide (x < -(2 ^ 63)) || decide (x ≥ 2 ^ 63)) = false) (c1 : (items.isEmpty || x == 1) = true) :
    Meets (Builtin.«tuple.__mul__» ⟨[.ref l, .int x u], []⟩) (fun _ R s => s.heap.get? l = some { cls := .type "tuple", dict := dd, data := .seq items n, slots := sl } ∧ R (.ok (.ret (Value.ref l))) s) :=
  .of_wp fun prog w A R s h => by
    obtain ⟨hp, g, d, tk, os⟩ := s
    obtain ⟨hl, h⟩ := h
    have f1 := AutoSeq1.idx_int
    wp_walk using wpAny_loadPart' hl
    repeat (first
      | (refine wpAny_ite_false (decide_eq_false (by rw [c0]; exact Bool.false_ne_true)) ?_; wp_walk using wpAny_loadPart' hl)
      | (refine wpAny_ite_true (decide_eq_true (by rw [c1])) ?_; wp_walk using wpAny_loadPart' hl))
    exact ⟨_, rfl, h⟩
theorem tuple_mul0 (l : Addr) (items : Array Value) (n : Nat) (dd : Option Addr) (sl : Array (Option Value)) (x : Int) (u : Tok) (c0 : (decide (x < -(2 ^ 63)) || decide (x ≥ 2 ^ 63)) = false) (c1 : (items.isEmpty || x == 1) = false) (c2 : (decide (x ≤ 0) || items.isEmpty) = true) :
    Meets (Builtin.«tuple.__mul__» ⟨[.ref l, .int x u], []⟩) (fun _ R s => s.heap.get? l = some { cls := .type "tuple", dict := dd, data := .seq items n, slots := sl } ∧
      R (.ok (.ret (Value.ref s.heap.objs.size))) { s with heap := s.heap.push { cls := Value.type "tuple", data := Data.seq #[] }, toks := s.toks }) :=
  .of_wp fun prog w A R s h => by
    obtain ⟨hp, g, d, tk, os⟩ := s
    obtain ⟨hl, h⟩ := h
    have f1 := AutoSeq1.idx_int
    wp_walk using wpAny_loadPart' hl
    repeat (first
      | (refine wpAny_ite_false (decide_eq_false (by rw [c0]; exact Bool.false_ne_true)) ?_; wp_walk using wpAny_loadPart' hl)
      | (refine wpAny_ite_false (decide_eq_false (by rw [c1]; exact Bool.false_ne_true)) ?_; wp_walk using wpAny_loadPart' hl)
      | (refine wpAny_ite_true (decide_eq_true (by rw [c2])) ?_; wp_walk using wpAny_loadPart' hl))
    exact ⟨_, rfl, h⟩
end L2

namespace DL
open PySem PySem.Spec PyProof.Rows L2
/-- a tuple so many times -/
def repTD : D → D → Option D
  | .tuple xs, .int k => if -1000 ≤ k ∧ k ≤ 1000 ∧ xs.length ≤ 1000 then some (.tuple (List.replicate k.toNat xs).flatten) else none
  | _, _ => none
def rRepA (K : PySem.W.Frag) : R2 := fun x y H Q => ∃ l k xs, x = .ref l ∧ y = .int k ∧ SqT K H l xs ∧ -1000 ≤ k ∧ k ≤ 1000 ∧ xs.length ≤ 1000 ∧ (k = 1 ∨ xs = [] → Q (.ref l) H) ∧ (k ≤ 0 → ∀ p, H p = none → Q (.ref p) (upd H p (.tup []))) ∧ (2 ≤ k → ∀ p, H p = none → Q (.ref p) (upd H p (.tup (List.replicate k.toNat xs).flatten)))
section
variable {X : Cx}
theorem op_repA : OpR X (binaryOp .Mult) (rRepA X.K) := by
  intro pins s σ H x y v u Q I rx ry h
  obtain ⟨l, k, xs, rfl, rfl, hT, h1, h2, hz, q1, q0, q2⟩ := h
  by_cases hk2 : xs ≠ [] ∧ 2 ≤ k
  · obtain ⟨hne, hk2⟩ := hk2
    exact op_repT pins s σ H _ _ v u Q I rx ry ⟨l, k, xs, rfl, rfl, hT, hne, hk2, h2, hz, q2 hk2⟩
  cases rx
  obtain ⟨t, rfl⟩ := ry
  obtain ⟨its, r, ⟨⟨cls, dd, data, sl⟩, ho, hc, n, hd⟩, hs⟩ := I.tuple hT
  simp only at hc hd
  subst hc hd
  have hle : its.length = xs.length := r.length.symm
  have c0 : (decide (k < -(2 ^ 63)) || decide (k ≥ 2 ^ 63)) = false := by
    rw [decide_eq_false (by omega), decide_eq_false (by omega)] <;> rfl
  by_cases hk1 : k = 1 ∨ xs = []
  · have c1 : (its.toArray.isEmpty || k == 1) = true := by
      rcases hk1 with rfl | e
      · simp
      · have : its = [] := List.eq_nil_of_length_eq_zero (by rw [hle, e]; rfl)
        subst this; rfl
    refine wpAny_binaryOp_repeat_ref (T := "tuple") (U := "int") (by decide) ⟨_, ho, rfl⟩ (fun s' => typeIs_int s' k t) noFill_tuple_mul F.fills_int_mul F.slot_int_rmul repeat_tuple F.slot_int_index.lookup
      (call_meets F.slot_int_rmul (typeIs_int s k t) F.entry_int_rmul (F.args_int_rmul_2 _ _) (int_rmul_tuple k t l its.toArray n dd sl)
        ⟨ho, rfl, ⟨_, ho, rfl⟩, call_meets F.slot_tuple_mul ⟨_, ho, rfl⟩ F.entry_tuple_mul (F.args_tuple_mul_2 _ _) (tuple_mul1 l its.toArray n dd sl k t c0 c1) ⟨ho, ?_⟩⟩)
    exact ⟨.ref l, H, I, rfl, q1 hk1⟩
  · have hn : its ≠ [] := fun e => hk1 (.inr (by
      rw [e] at hle
      exact List.eq_nil_of_length_eq_zero hle.symm))
    have hk0 : k ≤ 1 := by
      by_cases z : 2 ≤ k
      · exact absurd ⟨fun e => hk1 (.inr e), z⟩ hk2
      · omega
    have hk3 : k ≠ 1 := fun e => hk1 (.inl e)
    have hi : its.toArray.isEmpty = false := by
      cases its with
      | nil => exact absurd rfl hn
      | cons a b => rfl
    have c1 : (its.toArray.isEmpty || k == 1) = false := by
      rw [hi, Bool.false_or]
      exact beq_eq_false_iff_ne.mpr hk3
    have c2 : (decide (k ≤ 0) || its.toArray.isEmpty) = true := by
      rw [hi, Bool.or_false]
      exact decide_eq_true (by omega)
    refine wpAny_binaryOp_repeat_ref (T := "tuple") (U := "int") (by decide) ⟨_, ho, rfl⟩ (fun s' => typeIs_int s' k t) noFill_tuple_mul F.fills_int_mul F.slot_int_rmul repeat_tuple F.slot_int_index.lookup
      (call_meets F.slot_int_rmul (typeIs_int s k t) F.entry_int_rmul (F.args_int_rmul_2 _ _) (int_rmul_tuple k t l its.toArray n dd sl)
        ⟨ho, rfl, ⟨_, ho, rfl⟩, call_meets F.slot_tuple_mul ⟨_, ho, rfl⟩ F.entry_tuple_mul (F.args_tuple_mul_2 _ _) (tuple_mul0 l its.toArray n dd sl k t c0 c1 c2) ⟨ho, ?_⟩⟩)
    refine ⟨.ref s.heap.objs.size, _, I.laid (t' := s.toks) (o := .tup []) (fun b ob q => Heap.get?_push_of_some _ q) (Nat.le_refl _) ?_, rfl, q0 (by omega) _ (I.hok.fresh (Nat.le_refl _))⟩
    exact ⟨by simp, _, .nil, IsTup.new _ _⟩
theorem o_repTD : OpR X (binaryOp .Mult) (r2D X.K repTD) := OpR.imp op_repA fun x y H Q ⟨c, S, d, e, r, hr, hd, he, ho, q⟩ => by
  unfold repTD at ho
  split at ho
  · rename_i xs k
    split at ho
    · rename_i hf
      cases ho
      obtain ⟨a, vs, rfl, h1, h2, h3⟩ := hd.tup
      have hl := h3.length
      refine ⟨a, k, vs, rfl, he.int, SqT.of h1, hf.1, hf.2.1, by omega, fun hk => ?_, fun hk p hp => ?_, fun hk p hp => ?_⟩
      · have e1 : (List.replicate k.toNat xs).flatten = xs := by
          rcases hk with rfl | e
          · simp [List.replicate]
          · have : xs = [] := List.eq_nil_of_length_eq_zero (by rw [hl, e]; rfl)
            subst this; simp
        rw [e1] at q
        exact q c H _ (Nx.refl hr) (.tup h1 h2 h3)
      · have e1 : (List.replicate k.toNat xs).flatten = [] := by rw [show k.toNat = 0 by omega]; rfl
        rw [e1] at q
        exact q c _ _ (Nx.new hr hp) (Rep.newTup hr hp .nil (by simp))
      · have hz : (List.replicate k.toNat vs).flatten.length ≤ sizeLine := by
          rw [len_rep, sizeLine_eq]
          have a1 : vs.length * k.toNat ≤ 1000 * 1000 := Nat.mul_le_mul (by omega) (by omega)
          omega
        exact q c _ _ (Nx.new hr hp) (Rep.newTup hr hp (h3.rep _) hz)
    · cases ho
  · cases ho
end
end DL

namespace DL
open PySem L2
/-! ### plain lemmas about the layer's functions -/
def intl (ns : List Int) : List D := ns.map PyData.int
theorem intl_nil : intl [] = [] := rfl
theorem intl_cons (n : Int) (r : List Int) : intl (n :: r) = .int n :: intl r := rfl
theorem intl_length (ns : List Int) : (intl ns).length = ns.length := List.length_map _
theorem canLay_ints : ∀ ns : List Int, PyData.canLayAll0 (intl ns) = true
  | [] => by simp [intl, PyData.canLayAll0]
  | n :: r => by simp [intl_cons, PyData.canLayAll0, PyData.canLay0, canLay_ints r]
theorem depth_ints : ∀ ns : List Int, PyData.depthAll (intl ns) ≤ 1
  | [] => by simp [intl, PyData.depthAll]
  | n :: r => by have := depth_ints r; simp [intl_cons, PyData.depthAll, PyData.depth]; omega
theorem shaped_list (ns : List Int) : SeqAt.shaped (.list (intl ns)) = true := by
  have := depth_ints ns
  have e : PyData.depthAll (intl ns) + 1 ≤ 64 := by omega
  simpa [SeqAt.shaped, PyData.canLay0, canLay_ints, PyData.depth] using e
theorem shaped_tuple (ns : List Int) : SeqAt.shaped (.tuple (intl ns)) = true := by
  have := depth_ints ns
  have e : PyData.depthAll (intl ns) + 1 ≤ 64 := by omega
  simpa [SeqAt.shaped, PyData.canLay0, canLay_ints, PyData.depth] using e
theorem shaped_int (i : Int) : SeqAt.shaped (.int i) = true := rfl
theorem shaped_bool (i : Bool) : SeqAt.shaped (.bool i) = true := rfl
theorem eqB_of {a b : D} (ha : SeqAt.shaped a = true) (hb : SeqAt.shaped b = true) (hs : ∀ x, a ≠ .str x) : eqB a b = some (PyData.eqv a b) := by
  unfold eqB
  split
  · exact absurd rfl (hs _)
  · rw [ha, hb]; rfl
theorem eqB_refl {d : D} (h : SeqAt.shaped d = true) : eqB d d = some true := by
  by_cases hs : ∃ x, d = .str x
  · obtain ⟨x, rfl⟩ := hs; simp [eqB]
  · rw [eqB_of h h fun x e => hs ⟨x, e⟩, SeqAt.eqv_refl _ (SeqAt.canLay_of_shaped h)]
theorem eqB_int (i j : Int) : eqB (.int i) (.int j) = some (i == j) := by
  rw [eqB_of rfl rfl (by intro x h; cases h)]; simp [PyData.eqv]
theorem eqB_bool (i j : Bool) : eqB (.bool i) (.bool j) = some (i == j) := by
  rw [eqB_of rfl rfl (by intro x h; cases h)]; simp [PyData.eqv]
theorem eqB_nil (ns : List Int) : eqB (.list (intl ns)) (.list []) = some ns.isEmpty := by
  rw [eqB_of (shaped_list ns) rfl (by intro x h; cases h)]
  cases ns <;> simp [PyData.eqv, intl, PyData.eqvAll]
theorem intsOf_ints : ∀ ns : List Int, intsOf (intl ns) = some ns
  | [] => rfl
  | n :: r => by simp [intl_cons, intsOf, intsOf_ints r]
def bls (bs : List Bool) : List D := bs.map PyData.bool
theorem blsOf_bls : ∀ ns : List Bool, blsOf (bls ns) = some ns
  | [] => rfl
  | n :: r => by have := blsOf_bls r; simp [bls] at this; simp [bls, blsOf, this]
/-! calls -/
theorem rebase_nil : ∀ (vs : List Val) (k : Nat), lent vs = [] → rebase vs k = vs
  | [], _, _ => rfl
  | .loc n :: r, _, h => by simp [lent] at h
  | .d x :: r, k, h => by simp [rebase, rebase_nil r k (by simpa [lent] using h)]
  | .scr x :: r, k, h => by simp [rebase, rebase_nil r k (by simpa [lent] using h)]
  | .er x :: r, k, h => by simp [rebase, rebase_nil r k (by simpa [lent] using h)]
theorem callM_d {n : Nat} {F : Fn} {vs : List Val} {S S' : Sto} {r : D} (h : F vs [] = .ok (.d r) S') (hl : vs.length = n := by rfl) (h0 : lent vs = [] := by rfl) : callM n F vs S = .ok (.d r) S := by
  simp [callM, hl, h0, rebase_nil vs 0 h0, h, back, puts]
theorem callM_x {n : Nat} {F : Fn} {vs : List Val} {S S' : Sto} {r : XV} (h : F vs [] = .exc r S') (hl : vs.length = n := by rfl) (h0 : lent vs = [] := by rfl) : callM n F vs S = .exc r S := by
  simp [callM, hl, h0, rebase_nil vs 0 h0, h, puts]
theorem callD1 {F : Fn} {a : D} {S S' : Sto} {r : D} (h : F [.d a] [] = .ok (.d r) S') : callM 1 F [.d a] S = .ok (.d r) S := callM_d h
theorem callD2 {F : Fn} {a b : D} {S S' : Sto} {r : D} (h : F [.d a, .d b] [] = .ok (.d r) S') : callM 2 F [.d a, .d b] S = .ok (.d r) S := callM_d h
theorem callD3 {F : Fn} {a b c : D} {S S' : Sto} {r : D} (h : F [.d a, .d b, .d c] [] = .ok (.d r) S') : callM 3 F [.d a, .d b, .d c] S = .ok (.d r) S := callM_d h
theorem callD4 {F : Fn} {a b c e : D} {S S' : Sto} {r : D} (h : F [.d a, .d b, .d c, .d e] [] = .ok (.d r) S') : callM 4 F [.d a, .d b, .d c, .d e] S = .ok (.d r) S := callM_d h
theorem callX1 {F : Fn} {a : D} {S S' : Sto} {r : XV} (h : F [.d a] [] = .exc r S') : callM 1 F [.d a] S = .exc r S := callM_x h
theorem callX2 {F : Fn} {a b : D} {S S' : Sto} {r : XV} (h : F [.d a, .d b] [] = .exc r S') : callM 2 F [.d a, .d b] S = .exc r S := callM_x h
theorem callX3 {F : Fn} {a b c : D} {S S' : Sto} {r : XV} (h : F [.d a, .d b, .d c] [] = .exc r S') : callM 3 F [.d a, .d b, .d c] S = .exc r S := callM_x h
theorem rebase_tl : ∀ (vs : List Val) (k : Nat), lent vs = [] → rebase vs k = vs := rebase_nil
/-- a call that is lent the object at place 0 -/
theorem callL {n : Nat} {F : Fn} {rest : List Val} {o : O} {p' : Option O} {T T' : Sto} {r : D} (h : F (.loc 0 :: rest) [some o] = .ok (.d r) (p' :: T')) (hl : rest.length + 1 = n := by rfl) (h0 : lent rest = [] := by rfl) : callM n F (.loc 0 :: rest) (some o :: T) = .ok (.d r) (p' :: T) := by
  have c : ((Val.loc 0 :: rest).length = n ∧ (lent (.loc 0 :: rest)).Nodup ∧ (lent (.loc 0 :: rest)).all (isLive (some o :: T)) = true) := by
    refine ⟨by simpa using hl, ?_, ?_⟩
    · simp only [lent, h0]; simp
    · simp only [lent, h0]; rfl
  have e1 : lent (.loc 0 :: rest) = [0] := by simp only [lent, h0]
  have e2 : rebase (.loc 0 :: rest) 0 = .loc 0 :: rest := by simp only [rebase, rebase_nil rest _ h0]
  unfold callM
  rw [if_pos c, e1, e2]
  show (match F (.loc 0 :: rest) [some o] with | .ok v S' => back (some o :: T) [0] v S' | .exc x S' => .exc x (puts (some o :: T) [0] S') | .bad => .bad) = _
  rw [h]
  rfl
/-! comprehensions -/
theorem compL_ok {f : D → Sto → R (Option D)} {h : D → Option D} {S : Sto} : ∀ {ds : List D}, (∀ d ∈ ds, f d S = .ok (h d) S) → compL f ds S = .ok (ds.filterMap h) S
  | [], _ => rfl
  | d :: ds, hh => by
    rw [compL, hh d List.mem_cons_self]
    simp only [R.bind]
    rw [compL_ok fun x hx => hh x (List.mem_cons_of_mem _ hx)]
    simp only [R.bind, List.filterMap_cons]
    cases h d <;> rfl
theorem eLc_ok {fi : Iy} {vs : List Nat} {tg : Tg} {tt : Te} {fe : Ex} {ρ : Ev} {S S1 : Sto} {ds : List D} (h : D → Option D) (hi : fi ρ S = .ok ds S1) (hh : ∀ d ∈ ds, item vs tg tt fe ρ d S1 = .ok (h d) S1) :
    eLc fi vs tg tt fe ρ S = .ok (.d (.list (ds.filterMap h))) S1 := by
  simp only [eLc, cmp, hi, R.bind, compL_ok hh]
/-- a comprehension without a test -/
theorem eLc_map {fi : Iy} {i : Nat} {fe : Ex} {ρ : Ev} {S S1 : Sto} {ds : List D} (h : D → D) (hi : fi ρ S = .ok ds S1) (hh : ∀ d ∈ ds, fe (ρ.set i (some (.d d))) S1 = .ok (.d (h d)) S1) :
    eLc fi [i] (gNm i) tYesE fe ρ S = .ok (.d (.list (ds.map h))) S1 := by
  rw [eLc_ok (fun d => some (h d)) hi fun d hd => ?_, List.filterMap_eq_map']
  simp [item, gNm, wipeE, tYesE, R.noX, R.bind, hh d hd]
/-- a comprehension with a test -/
theorem eLc_if {fi : Iy} {i : Nat} {tt : Te} {fe : Ex} {ρ : Ev} {S S1 : Sto} {ds : List D} (p : D → Bool) (h : D → D) (hi : fi ρ S = .ok ds S1) (ht : ∀ d ∈ ds, tt (ρ.set i (some (.d d))) S1 = .ok (p d) S1)
    (hh : ∀ d ∈ ds, p d = true → fe (ρ.set i (some (.d d))) S1 = .ok (.d (h d)) S1) :
    eLc fi [i] (gNm i) tt fe ρ S = .ok (.d (.list ((ds.filter p).map h))) S1 := by
  rw [eLc_ok (fun d => if p d then some (h d) else none) hi fun d hd => ?_]
  · congr 3
    clear ht hh hi
    induction ds with
    | nil => rfl
    | cons d ds ih => by_cases z : p d <;> simp [List.filter_cons, z, ih]
  · simp only [item, gNm, wipeE, R.noX, R.bind, List.set_set, ht d hd]
    by_cases z : p d
    · simp [z, hh d hd z]
    · simp [z]
theorem eLcK_map {j i : Nat} {fe : Ex} {ρ : Ev} {S S1 : Sto} {ds : List D} (h : D → D) (hi : itKeys j ρ S = .ok ds S1) (hh : ∀ d ∈ ds, fe (ρ.set i (some (.d d))) S1 = .ok (.d (h d)) S1) :
    eLcK j [i] (gNm i) tYesE fe ρ S = .ok (.d (.list (ds.map h))) S1 := by
  simp only [eLcK, eLc_map h hi hh, R.noX]
theorem compL_any {f : D → Sto → R (Option D)} {h : D → Option D} : ∀ {ds : List D} (S : Sto), (∀ d ∈ ds, ∀ S, ∃ S', f d S = .ok (h d) S') → ∃ S', compL f ds S = .ok (ds.filterMap h) S'
  | [], S, _ => ⟨S, rfl⟩
  | d :: ds, S, hh => by
    obtain ⟨S1, h1⟩ := hh d List.mem_cons_self S
    obtain ⟨S2, h2⟩ := compL_any S1 fun x hx => hh x (List.mem_cons_of_mem _ hx)
    refine ⟨S2, ?_⟩
    rw [compL, h1]
    simp only [R.bind, h2, List.filterMap_cons]
    cases h d <;> rfl
theorem eLc_any {fi : Iy} {i : Nat} {fe : Ex} {ρ : Ev} {S S1 : Sto} {ds : List D} (h : D → D) (hi : fi ρ S = .ok ds S1) (hh : ∀ d ∈ ds, ∀ S, ∃ S', fe (ρ.set i (some (.d d))) S = .ok (.d (h d)) S') :
    ∃ S', eLc fi [i] (gNm i) tYesE fe ρ S = .ok (.d (.list (ds.map h))) S' := by
  obtain ⟨S2, h2⟩ := compL_any (f := item [i] (gNm i) tYesE fe ρ) (h := fun d => some (h d)) (ds := ds) S1 fun d hd S => by
    obtain ⟨S', h'⟩ := hh d hd S
    exact ⟨S', by simp only [item, gNm, wipeE, tYesE, R.noX, R.bind, List.set_set, h']⟩
  refine ⟨S2, ?_⟩
  simp only [eLc, cmp, hi, R.bind, h2, List.filterMap_eq_map']
/-! loops -/
theorem forN_nil {tg : Tg} {g : Blk} {ρ : Ev} {S : Sto} : forL tg g [] ρ S = .ok (.nx ρ) S := rfl
theorem forN_cons {i : Nat} {g : Blk} {d : D} {ds : List D} {ρ ρ1 ρ' : Ev} {S S' : Sto} {r : R Flow} (h1 : ρ.set i (some (.d d)) = ρ1) (h : g ρ1 S = .ok (.nx ρ') S') (h2 : forL (gNm i) g ds ρ' S' = r) : forL (gNm i) g (d :: ds) ρ S = r := by
  subst h1 h2
  simp only [forL, gNm, R.noX, R.st, h]
theorem forN_run {i : Nat} {g : Blk} (I : List D → Ev → Sto → Prop) (Q : R Flow → Prop) (hn : ∀ ρ S, I [] ρ S → Q (.ok (.nx ρ) S))
    (hs : ∀ d ds ρ S, I (d :: ds) ρ S → (∃ ρ' S', g (ρ.set i (some (.d d))) S = .ok (.nx ρ') S' ∧ I ds ρ' S') ∨ (∃ v S', g (ρ.set i (some (.d d))) S = .ok (.rt v) S' ∧ Q (.ok (.rt v) S'))) :
    ∀ (ds : List D) (ρ : Ev) (S : Sto), I ds ρ S → Q (forL (gNm i) g ds ρ S)
  | [], ρ, S, h => hn ρ S h
  | d :: ds, ρ, S, h => by
    simp only [forL, gNm, R.noX, R.st]
    rcases hs d ds ρ S h with ⟨ρ', S', e, h'⟩ | ⟨v, S', e, h'⟩
    · rw [e]; exact forN_run I Q hn hs ds ρ' S' h'
    · rw [e]; exact h'
theorem forN_inv {i : Nat} {g : Blk} (I : List D → Ev → Sto → Prop)
    (hs : ∀ d ds ρ S, I (d :: ds) ρ S → (∃ ρ' S', g (ρ.set i (some (.d d))) S = .ok (.nx ρ') S' ∧ I ds ρ' S')) {ds : List D} {ρ : Ev} {S : Sto} (h : I ds ρ S) : ∃ ρ' S', forL (gNm i) g ds ρ S = .ok (.nx ρ') S' ∧ I [] ρ' S' :=
  forN_run I (fun r => ∃ ρ' S', r = .ok (.nx ρ') S' ∧ I [] ρ' S') (fun ρ S h => ⟨ρ, S, rfl, h⟩) (fun d ds ρ S h => .inl (hs d ds ρ S h)) ds ρ S h
theorem rangeD_ints (i : Int) (n : Nat) : rangeD i n = intl ((List.range n).map fun k => i + (k : Nat)) := by simp [rangeD, intl]
theorem rgI_ok {i j : Int} (h0 : 0 ≤ i) (h1 : i ≤ 1000000) (h2 : j ≤ 1000000) (h3 : -1000000 ≤ j) : rgI i j = some (rangeD i (j - i).toNat) := by
  unfold rgI; rw [if_pos (by omega)]
theorem addD_int {i j : Int} : addD (.int i) (.int j) = some (.int (i + j)) := rfl
theorem subD_int {i j : Int} : subD (.int i) (.int j) = some (.int (i - j)) := rfl
theorem mulD_l {i j : Int} (h : smallI i = true) : mulD (.int i) (.int j) = some (.int (i * j)) := by simp [mulD, h]
theorem mulD_r {i j : Int} (h : smallI j = true) : mulD (.int i) (.int j) = some (.int (i * j)) := by simp [mulD, h]
theorem small_of {i : Int} (h : -18446744073709551616 < i) (h2 : i < 18446744073709551616) : smallI i = true := by simp [smallI, h, h2]
/-! steps -/
theorem sSeq_nx {g h : Blk} {ρ ρ1 : Ev} {S S1 : Sto} {r : R Flow} (hg : g ρ S = .ok (.nx ρ1) S1) (hh : h ρ1 S1 = r) : sSeq g h ρ S = r := by simp only [sSeq, hg, R.fl, hh]
theorem sSeq_rt {g h : Blk} {ρ : Ev} {S S1 : Sto} {v : Val} (hg : g ρ S = .ok (.rt v) S1) : sSeq g h ρ S = .ok (.rt v) S1 := by simp only [sSeq, hg, R.fl]
theorem sSeq_ex {g h : Blk} {ρ ρ1 : Ev} {S S1 : Sto} {v : XV} (hg : g ρ S = .ok (.ex v ρ1) S1) : sSeq g h ρ S = .ok (.ex v ρ1) S1 := by simp only [sSeq, hg, R.fl]
theorem sSet_ok {i : Nat} {f : Ex} {ρ ρ1 : Ev} {S S1 : Sto} {v : Val} (hf : f ρ S = .ok v S1) (h1 : ρ.set i (some v) = ρ1) : sSet i f ρ S = .ok (.nx ρ1) S1 := by subst h1; simp only [sSet, hf, R.st]
theorem sRet_ok {f : Ex} {ρ : Ev} {S S1 : Sto} {v : Val} (hf : f ρ S = .ok v S1) : sRet f ρ S = .ok (.rt v) S1 := by simp only [sRet, hf, R.st]
theorem sExpr_ok {f : Ex} {ρ : Ev} {S S1 : Sto} {v : Val} (hf : f ρ S = .ok v S1) : sExpr f ρ S = .ok (.nx ρ) S1 := by simp only [sExpr, hf, R.st]
theorem sExpr_x {f : Ex} {ρ : Ev} {S S1 : Sto} {v : XV} (hf : f ρ S = .exc v S1) : sExpr f ρ S = .ok (.ex v ρ) S1 := by simp only [sExpr, hf, R.st]
theorem sIf_t {t : Te} {g h : Blk} {ρ : Ev} {S S1 : Sto} {r : R Flow} (ht : t ρ S = .ok true S1) (hg : g ρ S1 = r) : sIf t g h ρ S = r := by simp only [sIf, ht, R.st, hg]
theorem sIf_f {t : Te} {g h : Blk} {ρ : Ev} {S S1 : Sto} {r : R Flow} (ht : t ρ S = .ok false S1) (hh : h ρ S1 = r) : sIf t g h ρ S = r := by simp only [sIf, ht, R.st, hh]
theorem sIf_skip {t : Te} {g : Blk} {ρ : Ev} {S S1 : Sto} (ht : t ρ S = .ok false S1) : sIf t g sNil ρ S = .ok (.nx ρ) S1 := by simp only [sIf, ht, R.st, sNil]
theorem sFor_ok {fi : Iy} {tg : Tg} {g : Blk} {ρ : Ev} {S S1 : Sto} {ds : List D} {r : R Flow} (hi : fi ρ S = .ok ds S1) (h : forL tg g ds ρ S1 = r) : sFor fi tg g ρ S = r := by simp only [sFor, hi, R.st, h]
theorem mkFn_rt {k : Nat} {g : Blk} {as : List Val} {ρ : Ev} {S S1 : Sto} {v : Val} (h0 : as.map some ++ List.replicate k none = ρ) (h : g ρ S = .ok (.rt v) S1) : mkFn k g as S = .ok v S1 := by subst h0; simp only [mkFn, h, fin]
theorem mkFn_nx {k : Nat} {g : Blk} {as : List Val} {ρ ρ1 : Ev} {S S1 : Sto} (h0 : as.map some ++ List.replicate k none = ρ) (h : g ρ S = .ok (.nx ρ1) S1) : mkFn k g as S = .ok (.d .none) S1 := by subst h0; simp only [mkFn, h, fin]
theorem mkFn_ex {k : Nat} {g : Blk} {as : List Val} {ρ ρ1 : Ev} {S S1 : Sto} {x : XV} (h0 : as.map some ++ List.replicate k none = ρ) (h : g ρ S = .ok (.ex x ρ1) S1) : mkFn k g as S = .exc x S1 := by subst h0; simp only [mkFn, h, fin]
theorem sScope_nx {g : Blk} {ρ ρ1 ρ2 : Ev} {S S1 S2 : Sto} (h : g ρ S = .ok (.nx ρ1) S1) (h1 : cutE S.length ρ1 = ρ2) (h2 : S1.take S.length = S2) : sScope g ρ S = .ok (.nx ρ2) S2 := by subst h1 h2; simp only [sScope, h]
theorem eAnd_f {f g : Ex} {ρ : Ev} {S S1 : Sto} (h : f ρ S = .ok (.d (.bool false)) S1) : eAnd f g ρ S = .ok (.d (.bool false)) S1 := by simp only [eAnd, h, R.bind]
theorem eAnd_t {f g : Ex} {ρ : Ev} {S S1 : Sto} {r : R Val} (h : f ρ S = .ok (.d (.bool true)) S1) (hg : g ρ S1 = r) : eAnd f g ρ S = r := by simp only [eAnd, h, R.bind, hg]
theorem eBin_ok {op : D → D → Option D} {fa fb : Ex} {ρ : Ev} {S S1 S2 : Sto} {a b c : D} (ha : fa ρ S = .ok (.d a) S1) (hb : fb ρ S1 = .ok (.d b) S2) (h : op a b = some c) : eBin op fa fb ρ S = .ok (.d c) S2 := by
  simp only [eBin, ha, hb, R.bind, op2, look, Option.bind, h, ofO]
theorem itR1_ok {fa : Ex} {ρ : Ev} {S S1 : Sto} {j : Int} {ds : List D} (h : fa ρ S = .ok (.d (.int j)) S1) (hr : rgI 0 j = some ds) : itR1 (aCons fa aNil) ρ S = .ok ds S1 := by
  simp only [itR1, aCons, aNil, h, R.bind, hr, ofL]
theorem itR2_ok {fa fb : Ex} {ρ : Ev} {S S1 S2 : Sto} {i j : Int} {ds : List D} (h : fa ρ S = .ok (.d (.int i)) S1) (h2 : fb ρ S1 = .ok (.d (.int j)) S2) (hr : rgI i j = some ds) : itR2 (aCons fa (aCons fb aNil)) ρ S = .ok ds S2 := by
  simp only [itR2, aCons, aNil, h, h2, R.bind, hr, ofL]
theorem eCB1_ok {op : List D → Option D} {fa : Ex} {ρ : Ev} {S S1 : Sto} {a c : D} (ha : fa ρ S = .ok (.d a) S1) (h : op [a] = some c) : eCB op (aCons fa aNil) ρ S = .ok (.d c) S1 := by
  simp only [eCB, aCons, aNil, ha, R.bind, lookAll, lookR, look, Option.bind, Option.map, h, ofO]
theorem eIx_ok {fa fb : Ex} {ρ : Ev} {S S1 S2 : Sto} {a b c : D} (ha : fa ρ S = .ok (.d a) S1) (hb : fb ρ S1 = .ok (.d b) S2) (h : ixD a b = some c) : eIx fa fb ρ S = .ok (.d c) S2 := by
  simp only [eIx, ha, hb, R.bind, op2R, lookR, look, Option.bind, h, ofO]
theorem eCall1_ok {F : Fn} {fa : Ex} {ρ : Ev} {S S1 S' : Sto} {a r : D} (ha : fa ρ S = .ok (.d a) S1) (h : F [.d a] [] = .ok (.d r) S') : eCall 1 F (aCons fa aNil) ρ S = .ok (.d r) S1 := by
  simp only [eCall, aCons, aNil, ha, R.bind]; exact callD1 h
theorem eCall2_ok {F : Fn} {fa fb : Ex} {ρ : Ev} {S S1 S2 S' : Sto} {a b r : D} (ha : fa ρ S = .ok (.d a) S1) (hb : fb ρ S1 = .ok (.d b) S2) (h : F [.d a, .d b] [] = .ok (.d r) S') : eCall 2 F (aCons fa (aCons fb aNil)) ρ S = .ok (.d r) S2 := by
  simp only [eCall, aCons, aNil, ha, hb, R.bind]; exact callD2 h
theorem eCall3_ok {F : Fn} {fa fb fc : Ex} {ρ : Ev} {S S1 S2 S3 S' : Sto} {a b c r : D} (ha : fa ρ S = .ok (.d a) S1) (hb : fb ρ S1 = .ok (.d b) S2) (hc : fc ρ S2 = .ok (.d c) S3) (h : F [.d a, .d b, .d c] [] = .ok (.d r) S') : eCall 3 F (aCons fa (aCons fb (aCons fc aNil))) ρ S = .ok (.d r) S3 := by
  simp only [eCall, aCons, aNil, ha, hb, hc, R.bind]; exact callD3 h
theorem eCall1_x {F : Fn} {fa : Ex} {ρ : Ev} {S S1 S' : Sto} {a : D} {r : XV} (ha : fa ρ S = .ok (.d a) S1) (h : F [.d a] [] = .exc r S') : eCall 1 F (aCons fa aNil) ρ S = .exc r S1 := by
  simp only [eCall, aCons, aNil, ha, R.bind]; exact callX1 h
theorem eCallL {n : Nat} {F : Fn} {f : La} {ρ : Ev} {S T T' : Sto} {rest : List Val} {o : O} {p' : Option O} {r : D} (hf : f ρ S = .ok (.loc 0 :: rest) (some o :: T)) (h : F (.loc 0 :: rest) [some o] = .ok (.d r) (p' :: T')) (hl : rest.length + 1 = n) (h0 : lent rest = []) : eCall n F f ρ S = .ok (.d r) (p' :: T) := by
  simp only [eCall, hf, R.bind]; exact callL h hl h0
theorem tNot_ok {f : Te} {ρ : Ev} {S S1 : Sto} {b : Bool} (h : f ρ S = .ok b S1) : tNotE f ρ S = .ok (!b) S1 := by simp only [tNotE, h, R.bind]
theorem tTru_b {f : Ex} {ρ : Ev} {S S1 : Sto} {b : Bool} (h : f ρ S = .ok (.d (.bool b)) S1) : tTru f ρ S = .ok b S1 := by simp only [tTru, h, R.bind, truV, look, Option.bind, truthD]
theorem tOf_b {f : Ex} {ρ : Ev} {S S1 : Sto} {b : Bool} (h : f ρ S = .ok (.d (.bool b)) S1) : tOf f ρ S = .ok b S1 := by simp only [tOf, h, R.bind, asB]
theorem tOr_f {f g : Te} {ρ : Ev} {S S1 : Sto} {r : R Bool} (h : f ρ S = .ok false S1) (hg : g ρ S1 = r) : tOrE f g ρ S = r := by simp only [tOrE, h, R.bind, hg]
theorem tOr_t {f g : Te} {ρ : Ev} {S S1 : Sto} (h : f ρ S = .ok true S1) : tOrE f g ρ S = .ok true S1 := by simp only [tOrE, h, R.bind]
theorem tAnd_t {f g : Te} {ρ : Ev} {S S1 : Sto} {r : R Bool} (h : f ρ S = .ok true S1) (hg : g ρ S1 = r) : tAndE f g ρ S = r := by simp only [tAndE, h, R.bind, hg]
theorem tAnd_f {f g : Te} {ρ : Ev} {S S1 : Sto} (h : f ρ S = .ok false S1) : tAndE f g ρ S = .ok false S1 := by simp only [tAndE, h, R.bind]
theorem whileN_f {t : Te} {g : Blk} {n : Nat} {ρ : Ev} {S S1 : Sto} (h : t ρ S = .ok false S1) : whileN t g (n + 1) ρ S = .ok (.nx ρ) S1 := by simp only [whileN, h, R.st]
theorem whileN_t {t : Te} {g : Blk} {n : Nat} {ρ ρ' : Ev} {S S1 S' : Sto} {r : R Flow} (h : t ρ S = .ok true S1) (hg : g ρ S1 = .ok (.nx ρ') S') (hr : whileN t g n ρ' S' = r) : whileN t g (n + 1) ρ S = r := by simp only [whileN, h, R.st, hg, hr]
theorem atI_n {α : Type} (xs : List α) (i : Nat) : atI xs (i : Int) = xs[i]? := by
  unfold atI ixN
  rw [if_pos (by omega)]
  by_cases h : i < xs.length
  · rw [if_pos (by omega)]; simp
  · rw [if_neg (by omega), List.getElem?_eq_none (by omega)]; rfl
theorem dedup_step (ks : List Int) (a : Int) : PyProof.Rows.step_dedup ks a = if a ∈ ks then ks else ks ++ [a] := by
  unfold PyProof.Rows.step_dedup
  by_cases m : a ∈ ks <;> simp [m]
theorem dedup_le : ∀ (ns ks : List Int), (ns.foldl PyProof.Rows.step_dedup ks).length ≤ ks.length + ns.length
  | [], ks => by simp
  | n :: r, ks => by
    have := dedup_le r (PyProof.Rows.step_dedup ks n)
    rw [dedup_step] at this
    simp only [List.foldl_cons, List.length_cons, dedup_step]
    split at this <;> simp only [*, if_true, if_false, List.length_append, List.length_singleton, List.length_cons, List.length_nil] at * <;> omega
theorem dedup_eq : ∀ (ns ks : List Int), (ns.foldl PyProof.Rows.step_dedup ks).length = ks.length + ns.length ↔ ns.Nodup ∧ ∀ n ∈ ns, n ∉ ks
  | [], ks => by simp
  | n :: r, ks => by
    simp only [List.foldl_cons, List.length_cons, dedup_step, List.nodup_cons, List.forall_mem_cons]
    by_cases z : n ∈ ks
    · have := dedup_le r ks
      simp only [if_pos z]
      constructor
      · intro h; omega
      · intro h; exact absurd z h.2.1
    · have := dedup_eq r (ks ++ [n])
      simp only [if_neg z]
      simp only [List.length_append, List.length_singleton] at this
      rw [show ks.length + (r.length + 1) = ks.length + 1 + r.length by omega, this]
      constructor
      · rintro ⟨h1, h2⟩
        exact ⟨⟨fun h => h2 n h (by simp), h1⟩, z, fun m hm hk => h2 m hm (by simp [hk])⟩
      · rintro ⟨⟨h1, h2⟩, _, h3⟩
        refine ⟨h2, fun m hm hk => ?_⟩
        simp only [List.mem_append, List.mem_singleton] at hk
        rcases hk with hk | rfl
        · exact h3 m hm hk
        · exact h1 hm
theorem distinct_eq (ns : List Int) : (distinct ns).length = ns.length ↔ ns.Nodup := by
  have := dedup_eq ns []
  simpa [distinct] using this
/-! the pool's numbers -/
def P64 : Int := 10 ^ 64
def P128 : Int := 10 ^ 128
def P192 : Int := 10 ^ 192
def P256 : Int := 10 ^ 256
def P320 : Int := 10 ^ 320
def P384 : Int := 10 ^ 384
theorem pw64 : powD (.int 10) (.int 64) = some (.int P64) := rfl
theorem pw18 : powD (.int 10) (.int 18) = some (.int 1000000000000000000) := rfl
theorem pw11 : powD (.int 10) (.int 11) = some (.int 100000000000) := rfl
theorem mulD_of {i j k : Int} (h : (smallI j || smallI i || decide (i.natAbs.log2 + j.natAbs.log2 < 1000000)) = true) (e : i * j = k) : mulD (.int i) (.int j) = some (.int k) := by
  subst e; simp only [mulD]; rw [if_pos h]
theorem ml128 : mulD (.int P64) (.int P64) = some (.int P128) := mulD_of (by decide +kernel) (by decide +kernel)
theorem ml192 : mulD (.int P128) (.int P64) = some (.int P192) := mulD_of (by decide +kernel) (by decide +kernel)
theorem ml256 : mulD (.int P192) (.int P64) = some (.int P256) := mulD_of (by decide +kernel) (by decide +kernel)
theorem ml320 : mulD (.int P256) (.int P64) = some (.int P320) := mulD_of (by decide +kernel) (by decide +kernel)
theorem ml384 : mulD (.int P320) (.int P64) = some (.int P384) := mulD_of (by decide +kernel) (by decide +kernel)
theorem ml384' : mulD (.int P192) (.int P192) = some (.int P384) := mulD_of (by decide +kernel) (by decide +kernel)
theorem P384_pos : 0 < P384 := by decide +kernel
theorem modD_ok {i j : Int} (h : 0 < j) : modD (.int i) (.int j) = some (.int (i % j)) := by simp [modD, h]
theorem cutD_map {α β : Type} (f : α → β) (xs : List α) (lo hi : Option Int) : cutD (xs.map f) lo hi = (cutD xs lo hi).map f := by
  simp [cutD, List.map_drop, List.map_take]
theorem sumD_cut (ns : List Int) (lo hi : Option Int) : sumD [.list (cutD (intl ns) lo hi)] = some (.int (cutD ns lo hi).sum) := by
  rw [intl, cutD_map]
  show (intsOf (intl _)).map _ = _
  rw [intsOf_ints]; rfl
end DL

/-! RL: from the layer's functions over data to typed functions -/
namespace DL
open PySem L2
/-- what is computed: a value, an error (with the objects that were lent, as they are then), or nothing known -/
inductive Q (α : Type) where
  | ok (a : α)
  | exc (x : XV) (os : List O)
  | bad
def Q.bind {α β : Type} (q : Q α) (k : α → Q β) : Q β := match q with
  | .ok a => k a
  | .exc x os => .exc x os
  | .bad => .bad
def Q.ex {α : Type} (q : Q α) (f : List O → List O) : Q α := match q with
  | .exc x os => .exc x (f os)
  | q => q
def Q.noX {α : Type} (q : Q α) : Q α := match q with
  | .exc _ _ => .bad
  | q => q
def Q.of {α : Type} (o : Option α) : Q α := match o with
  | some a => .ok a
  | none => .bad
@[simp] theorem Q.ok_bind {α β : Type} (a : α) (k : α → Q β) : (Q.ok a).bind k = k a := by simp only [Q.bind]
@[simp] theorem Q.exc_bind {α β : Type} (x : XV) (os : List O) (k : α → Q β) : (Q.exc x os).bind k = .exc x os := by simp only [Q.bind]
@[simp] theorem Q.bad_bind {α β : Type} (k : α → Q β) : (Q.bad : Q α).bind k = .bad := by simp only [Q.bind]
@[simp] theorem Q.bind_bind {α β γ : Type} (q : Q α) (f : α → Q β) (g : β → Q γ) : (q.bind f).bind g = q.bind fun a => (f a).bind g := by cases q <;> rfl
@[simp] theorem Q.ok_ex {α : Type} (a : α) (f : List O → List O) : (Q.ok a).ex f = .ok a := by simp only [Q.ex]
@[simp] theorem Q.exc_ex {α : Type} (x : XV) (os : List O) (f : List O → List O) : (Q.exc x os : Q α).ex f = .exc x (f os) := by simp only [Q.ex]
@[simp] theorem Q.ok_noX {α : Type} (a : α) : (Q.ok a).noX = .ok a := by simp only [Q.noX]
@[simp] theorem Q.exc_noX {α : Type} (x : XV) (os : List O) : (Q.exc x os : Q α).noX = .bad := by simp only [Q.noX]
@[simp] theorem Q.of_some {α : Type} (a : α) : Q.of (some a) = .ok a := by simp only [Q.of]
@[simp] theorem Q.of_none {α : Type} : Q.of (none : Option α) = .bad := by simp only [Q.of]
theorem Q.bind_ok_id {α : Type} (q : Q α) : q.bind .ok = q := by cases q <;> rfl
theorem Q.bind_ite {α β : Type} (c : Prop) [Decidable c] (p q : Q α) (k : α → Q β) : (if c then p else q).bind k = if c then p.bind k else q.bind k := by split <;> rfl

/-! ### the abstract state -/
inductive SV where
  | dat (d : D)
  | ob (o : O)
  | par (j : Nat) (o : O)
  | scr (ds : List D)
  | er (o : Option XV)
abbrev AS := List (Option SV)
/-- what was caught, or None -/
def erV : Option XV → Val
  | none => .d .none
  | some x => .er x
def VM (S : Sto) : SV → Val → Prop
  | .dat d, v => v = .d d
  | .ob o, v => ∃ n, v = .loc n ∧ S[n]? = some (some o)
  | .par j o, v => v = .loc j ∧ S[j]? = some (some o)
  | .scr ds, v => v = .scr ds
  | .er o, v => v = erV o
structure Env (A : AS) (ρ : Ev) (S : Sto) : Prop where
  len : ρ.length = A.length
  at' : ∀ (i : Nat) (sv : SV), A[i]? = some (some sv) → ∃ v, ρ[i]? = some (some v) ∧ VM S sv v
  inj : ∀ (i j : Nat) (sv sv' : SV) (n : Nat), A[i]? = some (some sv) → A[j]? = some (some sv') → ρ[i]? = some (some (.loc n)) → ρ[j]? = some (some (.loc n)) → i = j
/-- the value of an expression: data, the object of a slot, a new object, the script -/
inductive RV where
  | dat (d : D)
  | sl (i : Nat)
  | new (o : O)
  | scr (ds : List D)
  | er (o : Option XV)
def VR (A : AS) (ρ : Ev) (S : Sto) : RV → Val → Prop
  | .dat d, v => v = .d d
  | .sl i, v => ∃ n sv o, A[i]? = some (some sv) ∧ ρ[i]? = some (some v) ∧ v = .loc n ∧ S[n]? = some (some o)
  | .new o, v => ∃ n, v = .loc n ∧ S[n]? = some (some o) ∧ ∀ (i : Nat) (sv : SV), A[i]? = some (some sv) → ρ[i]? ≠ some (some (.loc n))
  | .scr ds, v => v = .scr ds
  | .er o, v => v = erV o
inductive VRs (A : AS) (ρ : Ev) (S : Sto) : List RV → List Val → Prop
  | nil : VRs A ρ S [] []
  | cons {r : RV} {v : Val} {rs : List RV} {vs : List Val} : VR A ρ S r v → VRs A ρ S rs vs → VRs A ρ S (r :: rs) (v :: vs)
def newLocs : List RV → List Val → List Nat
  | .new _ :: rs, .loc n :: vs => n :: newLocs rs vs
  | _ :: rs, _ :: vs => newLocs rs vs
  | _, _ => []
inductive AF where
  | nx (A : AS) | bk (A : AS) | ct (A : AS) | rt (v : RV) (A : AS)
def Mt : R Flow → AF → Prop
  | .ok (.nx ρ) S, .nx A => Env A ρ S
  | .ok (.bk ρ) S, .bk A => Env A ρ S
  | .ok (.ct ρ) S, .ct A => Env A ρ S
  | .ok (.rt v) S, .rt r A => ∃ ρ, Env A ρ S ∧ VR A ρ S r v
  | _, _ => False
structure Gx (β : Type) where
  G : AF → β → Prop
  E : AS → List O → Prop
def Ref {β : Type} (Γ : Gx β) (r : R Flow) : Q β → Prop
  | .bad => True
  | .ok a => ∃ fl, Mt r fl ∧ Γ.G fl a
  | .exc x os => ∃ ρ S B, r = .ok (.ex x ρ) S ∧ Env B ρ S ∧ Γ.E B os
/-- an expression, then what comes of it -/
def CE {β : Type} (e : Ex) (A : AS) (t : Q β) (κ : RV → AS → Q β → Prop) (Γ : Gx β) : Prop :=
  ∀ ρ S k, Env A ρ S → (∀ rv v B S' t', κ rv B t' → Env B ρ S' → VR B ρ S' rv v → Ref Γ (k v S') t') → Ref Γ ((e ρ S).st ρ k) t
def CT {β : Type} (e : Te) (A : AS) (t : Q β) (κ : Bool → AS → Q β → Prop) (Γ : Gx β) : Prop :=
  ∀ ρ S k, Env A ρ S → (∀ b B S' t', κ b B t' → Env B ρ S' → Ref Γ (k b S') t') → Ref Γ ((e ρ S).st ρ k) t
def CA {β : Type} (e : La) (A : AS) (t : Q β) (κ : List RV → AS → Q β → Prop) (Γ : Gx β) : Prop :=
  ∀ ρ S k, Env A ρ S → (∀ rvs vs B S' t', κ rvs B t' → Env B ρ S' → VRs B ρ S' rvs vs → (newLocs rvs vs).Nodup → Ref Γ (k vs S') t') → Ref Γ ((e ρ S).st ρ k) t
def CI {β : Type} (e : Iy) (A : AS) (t : Q β) (κ : List D → AS → Q β → Prop) (Γ : Gx β) : Prop :=
  ∀ ρ S k, Env A ρ S → (∀ ds B S' t', κ ds B t' → Env B ρ S' → Ref Γ (k ds S') t') → Ref Γ ((e ρ S).st ρ k) t
def CB {β : Type} (b : Blk) (A : AS) (t : Q β) (κ : AS → Q β → Prop) (Γ : Gx β) : Prop :=
  ∀ ρ S k, Env A ρ S → (∀ B ρ' S' t', κ B t' → Env B ρ' S' → Ref Γ (k ρ' S') t') → Ref Γ ((b ρ S).fl k) t
/-! pure pieces -/
def PE1 (e : Ex) (A : AS) (d : D) : Prop := ∀ ρ S, Env A ρ S → e ρ S = .ok (.d d) S
def PL (e : Ex) (A : AS) (d : D) : Prop := ∀ ρ S, Env A ρ S → ∃ v, e ρ S = .ok v S ∧ look S v = some d
def PLR (e : Ex) (A : AS) (d : D) : Prop := ∀ ρ S, Env A ρ S → ∃ v, e ρ S = .ok v S ∧ lookR S v = some d
def PT1 (e : Te) (A : AS) (b : Bool) : Prop := ∀ ρ S, Env A ρ S → e ρ S = .ok b S
def PA1 (e : La) (A : AS) (ds : List D) : Prop := ∀ ρ S, Env A ρ S → e ρ S = .ok (ds.map .d) S
def PLA (e : La) (A : AS) (ds : List D) : Prop := ∀ ρ S, Env A ρ S → ∃ vs, e ρ S = .ok vs S ∧ lookAll S vs = some ds
def PO1 (e : Po) (A : AS) (o : Option Int) : Prop := ∀ ρ S, Env A ρ S → e ρ S = .ok o S
section
variable {A : AS}
theorem PE1.pl {e : Ex} {d : D} (h : PE1 e A d) : PL e A d := fun ρ S E => ⟨_, h ρ S E, rfl⟩
theorem PL.plr {e : Ex} {d : D} (h : PL e A d) : PLR e A d := fun ρ S E => by
  obtain ⟨v, h1, h2⟩ := h ρ S E
  refine ⟨v, h1, ?_⟩
  cases v with
  | d x => exact h2
  | loc n => exact h2
  | scr ds => cases h2
  | er x => cases h2
theorem PE1.plr {e : Ex} {d : D} (h : PE1 e A d) : PLR e A d := h.pl.plr
theorem pe_var {i : Nat} {d : D} (h : A[i]? = some (some (.dat d))) : PE1 (eVar i) A d := fun ρ S E => by
  obtain ⟨v, h1, h2⟩ := E.at' i _ h
  cases h2
  simp only [eVar, h1]
theorem pl_mut {i : Nat} {o : O} (h : A[i]? = some (some (.ob o))) : PL (eVar i) A (objD o) := fun ρ S E => by
  obtain ⟨v, h1, n, rfl, h3⟩ := E.at' i _ h
  refine ⟨.loc n, by simp only [eVar, h1], ?_⟩
  cases o <;> simp only [look, h3, objD]
theorem pl_par {i j : Nat} {o : O} (h : A[i]? = some (some (.par j o))) : PL (eVar i) A (objD o) := fun ρ S E => by
  obtain ⟨v, h1, rfl, h3⟩ := E.at' i _ h
  refine ⟨.loc j, by simp only [eVar, h1], ?_⟩
  cases o <;> simp only [look, h3, objD]
theorem plr_scr {i : Nat} {ds : List D} (h : A[i]? = some (some (.scr ds))) : PLR (eVar i) A (.list ds) := fun ρ S E => by
  obtain ⟨v, h1, h2⟩ := E.at' i _ h
  cases h2
  exact ⟨.scr ds, by simp only [eVar, h1], rfl⟩
theorem pe_c {d : D} : PE1 (eC d) A d := fun ρ S E => rfl
theorem pe_bin {op : D → D → Option D} {e1 e2 : Ex} {d1 d2 d : D} (h1 : PL e1 A d1) (h2 : PL e2 A d2) (h : op d1 d2 = some d) : PE1 (eBin op e1 e2) A d := fun ρ S E => by
  obtain ⟨v, a1, a2⟩ := h1 ρ S E
  obtain ⟨w, b1, b2⟩ := h2 ρ S E
  simp only [eBin, a1, b1, R.bind, op2, a2, b2, Option.bind, h, ofO]
theorem pe_ix {e1 e2 : Ex} {d1 d2 d : D} (h1 : PLR e1 A d1) (h2 : PL e2 A d2) (h : ixD d1 d2 = some d) : PE1 (eIx e1 e2) A d := fun ρ S E => by
  obtain ⟨v, a1, a2⟩ := h1 ρ S E
  obtain ⟨w, b1, b2⟩ := h2 ρ S E
  simp only [eIx, a1, b1, R.bind, op2R, a2, b2, Option.bind, h, ofO]
theorem po_none : PO1 pNone A none := fun ρ S E => rfl
theorem po_some {e : Ex} {i : Int} (h : PE1 e A (.int i)) : PO1 (pSome e) A (some i) := fun ρ S E => by
  simp only [pSome, h ρ S E, R.bind]
theorem pe_sl {e : Ex} {l h : Po} {lo hi : Option Int} {d d' : D} (h1 : PLR e A d) (h2 : PO1 l A lo) (h3 : PO1 h A hi) (hd : slD lo hi d = some d') : PE1 (eSl e l h) A d' := fun ρ S E => by
  obtain ⟨v, a1, a2⟩ := h1 ρ S E
  simp only [eSl, a1, R.bind, h2 ρ S E, h3 ρ S E, a2, Option.bind, hd, ofO]
theorem pa_nil : PA1 aNil A [] := fun ρ S E => rfl
theorem pa_cons {e : Ex} {r : La} {d : D} {ds : List D} (h : PE1 e A d) (hr : PA1 r A ds) : PA1 (aCons e r) A (d :: ds) := fun ρ S E => by
  simp only [aCons, h ρ S E, hr ρ S E, R.bind, List.map_cons]
theorem pla_nil : PLA aNil A [] := fun ρ S E => ⟨[], rfl, rfl⟩
theorem pla_cons {e : Ex} {r : La} {d : D} {ds : List D} (h : PLR e A d) (hr : PLA r A ds) : PLA (aCons e r) A (d :: ds) := fun ρ S E => by
  obtain ⟨v, a1, a2⟩ := h ρ S E
  obtain ⟨vs, b1, b2⟩ := hr ρ S E
  exact ⟨v :: vs, by simp only [aCons, a1, b1, R.bind], by simp only [lookAll, a2, b2, Option.bind, Option.map]⟩
theorem allD_map : ∀ ds : List D, allD (ds.map .d) = some ds
  | [] => rfl
  | d :: r => by simp only [List.map_cons, allD, allD_map r, Option.map]
theorem pe_tup {f : La} {ds : List D} (h : PA1 f A ds) (hl : ds.length ≤ 1000) : PE1 (eTup f) A (.tuple ds) := fun ρ S E => by
  simp only [eTup, h ρ S E, R.bind, mkSeq, allD_map, hl, if_true]
theorem pe_lst {f : La} {ds : List D} (h : PA1 f A ds) (hl : ds.length ≤ 1000) : PE1 (eLst f) A (.list ds) := fun ρ S E => by
  simp only [eLst, h ρ S E, R.bind, mkSeq, allD_map, hl, if_true]
theorem pe_cb {op : List D → Option D} {f : La} {ds : List D} {d : D} (h : PLA f A ds) (ho : op ds = some d) : PE1 (eCB op f) A d := fun ρ S E => by
  obtain ⟨vs, b1, b2⟩ := h ρ S E
  simp only [eCB, b1, R.bind, b2, Option.bind, ho, ofO]
theorem pe_isi {T : String} {e : Ex} {d : D} (h : PLR e A d) : PE1 (eIsi T e) A (.bool (isiD T d)) := fun ρ S E => by
  obtain ⟨v, a1, a2⟩ := h ρ S E
  simp only [eIsi, a1, R.bind, a2]
theorem pe_not {e : Ex} {b : Bool} (h : PE1 e A (.bool b)) : PE1 (eNot e) A (.bool (!b)) := fun ρ S E => by simp only [eNot, h ρ S E, R.bind]
theorem pe_neg {e : Ex} {i : Int} (h : PE1 e A (.int i)) : PE1 (eNeg e) A (.int (-i)) := fun ρ S E => by simp only [eNeg, h ρ S E, R.bind]
theorem pe_and {e f : Ex} {b c : Bool} (h : PE1 e A (.bool b)) (h2 : PE1 f A (.bool c)) : PE1 (eAnd e f) A (.bool (b && c)) := fun ρ S E => by
  cases b <;> simp only [eAnd, h ρ S E, h2 ρ S E, R.bind, Bool.true_and, Bool.false_and]
theorem pe_or {e f : Ex} {b c : Bool} (h : PE1 e A (.bool b)) (h2 : PE1 f A (.bool c)) : PE1 (eOr e f) A (.bool (b || c)) := fun ρ S E => by
  cases b <;> simp only [eOr, h ρ S E, h2 ρ S E, R.bind, Bool.true_or, Bool.false_or]
theorem pe_if {α : Type} {te : Te} {e f : Ex} {b : Bool} {x y : α} (F : α → D) (h : PT1 te A b) (h1 : PE1 e A (F x)) (h2 : PE1 f A (F y)) : PE1 (eIf te e f) A (F (if b then x else y)) := fun ρ S E => by
  cases b <;> simp only [eIf, h ρ S E, h1 ρ S E, h2 ρ S E, R.bind, if_true, if_false, Bool.false_eq_true]
theorem pe_chain {op op' : D → D → Option D} {fa fb fc : Ex} {a b c : D} {p q : Bool} (h1 : PL fa A a) (h2 : PL fb A b) (h3 : PL fc A c) (ho : op a b = some (.bool p)) (ho' : op' b c = some (.bool q)) : PE1 (eChain op op' fa fb fc) A (.bool (p && q)) := fun ρ S E => by
  obtain ⟨v, a1, a2⟩ := h1 ρ S E
  obtain ⟨w, b1, b2⟩ := h2 ρ S E
  obtain ⟨u, c1, c2⟩ := h3 ρ S E
  cases p <;> simp only [eChain, a1, b1, c1, R.bind, op2, a2, b2, c2, Option.bind, ho, ho', ofO, Bool.true_and, Bool.false_and]
theorem pe_rev {e : Ex} {d d' : D} (h : PLR e A d) (hd : revD d = some d') : PE1 (eRev e) A d' := fun ρ S E => by
  obtain ⟨v, a1, a2⟩ := h ρ S E
  simp only [eRev, a1, R.bind, a2, Option.bind, hd, ofO]
theorem pt_of {e : Ex} {b : Bool} (h : PE1 e A (.bool b)) : PT1 (tOf e) A b := fun ρ S E => by simp only [tOf, h ρ S E, R.bind, asB]
theorem pt_tru {e : Ex} {d : D} {b : Bool} (h : PL e A d) (hb : truthD d = some b) : PT1 (tTru e) A b := fun ρ S E => by
  obtain ⟨v, a1, a2⟩ := h ρ S E
  simp only [tTru, a1, R.bind, truV, a2, Option.bind, hb]
theorem pt_not {e : Te} {b : Bool} (h : PT1 e A b) : PT1 (tNotE e) A (!b) := fun ρ S E => by simp only [tNotE, h ρ S E, R.bind]
theorem pt_and {e f : Te} {b c : Bool} (h : PT1 e A b) (h2 : PT1 f A c) : PT1 (tAndE e f) A (b && c) := fun ρ S E => by
  cases b <;> simp only [tAndE, h ρ S E, h2 ρ S E, R.bind, Bool.true_and, Bool.false_and]
theorem pt_or {e f : Te} {b c : Bool} (h : PT1 e A b) (h2 : PT1 f A c) : PT1 (tOrE e f) A (b || c) := fun ρ S E => by
  cases b <;> simp only [tOrE, h ρ S E, h2 ρ S E, R.bind, Bool.true_or, Bool.false_or]
theorem pt_yes : PT1 tYesE A true := fun ρ S E => rfl
end
end DL

namespace DL
open PySem L2
/-! ### the abstract state's laws -/
theorem getset {α : Type} {l : List α} {i j : Nat} {x y : α} (h : (l.set i x)[j]? = some y) : (i = j ∧ y = x) ∨ (i ≠ j ∧ l[j]? = some y) := by
  by_cases q : i = j
  · subst q
    by_cases hl : i < l.length
    · rw [List.getElem?_set_self hl] at h; cases h; exact .inl ⟨rfl, rfl⟩
    · rw [List.getElem?_eq_none (by simpa using hl)] at h; cases h
  · rw [List.getElem?_set_ne q] at h; exact .inr ⟨q, h⟩
theorem setget {α : Type} {l : List α} {i j : Nat} {x y : α} (h : l[j]? = some y) (q : i ≠ j) : (l.set i x)[j]? = some y := by rw [List.getElem?_set_ne q]; exact h
theorem lt_of_get {α : Type} {l : List α} {i : Nat} {y : α} (h : l[i]? = some y) : i < l.length := (List.getElem?_eq_some_iff.mp h).1
theorem VM.loc {S : Sto} {sv : SV} {n : Nat} (h : VM S sv (.loc n)) : ∃ o, S[n]? = some (some o) ∧ (sv = .ob o ∨ sv = .par n o) := by
  cases sv with
  | dat d => cases h
  | ob o => obtain ⟨m, h1, h2⟩ := h; cases h1; exact ⟨o, h2, .inl rfl⟩
  | par j o => obtain ⟨h1, h2⟩ := h; cases h1; exact ⟨o, h2, .inr rfl⟩
  | scr ds => cases h
  | er o => cases o <;> cases h
section
variable {A B : AS} {ρ : Ev} {S S' : Sto}
/-- a slot gets data -/
theorem Env.setD (E : Env A ρ S) (i : Nat) (d : D) : Env (A.set i (some (.dat d))) (ρ.set i (some (.d d))) S where
  len := by simpa using E.len
  at' := fun j sv h => by
    rcases getset h with ⟨rfl, e⟩ | ⟨q, h⟩
    · cases e
      have := lt_of_get h
      rw [List.length_set] at this
      exact ⟨.d d, List.getElem?_set_self (E.len ▸ this), rfl⟩
    · obtain ⟨v, h1, h2⟩ := E.at' j sv h
      exact ⟨v, setget h1 q, h2⟩
  inj := fun j k sv sv' n hj hk h1 h2 => by
    rcases getset h1 with ⟨rfl, e⟩ | ⟨q1, h1⟩
    · cases e
    rcases getset h2 with ⟨rfl, e⟩ | ⟨q2, h2⟩
    · cases e
    rcases getset hj with ⟨rfl, _⟩ | ⟨_, hj⟩
    · exact absurd rfl q1
    rcases getset hk with ⟨rfl, _⟩ | ⟨_, hk⟩
    · exact absurd rfl q2
    exact E.inj j k sv sv' n hj hk h1 h2
/-- a slot gets a new object -/
theorem Env.setN (E : Env A ρ S) (i n : Nat) (o : O) (hS : S[n]? = some (some o)) (hn : ∀ (i : Nat) (sv : SV), A[i]? = some (some sv) → ρ[i]? ≠ some (some (.loc n))) : Env (A.set i (some (.ob o))) (ρ.set i (some (.loc n))) S where
  len := by simpa using E.len
  at' := fun j sv h => by
    rcases getset h with ⟨rfl, e⟩ | ⟨q, h⟩
    · cases e
      have := lt_of_get h
      rw [List.length_set] at this
      exact ⟨.loc n, List.getElem?_set_self (E.len ▸ this), n, rfl, hS⟩
    · obtain ⟨v, h1, h2⟩ := E.at' j sv h
      exact ⟨v, setget h1 q, h2⟩
  inj := fun j k sv sv' m hj hk h1 h2 => by
    rcases getset h1 with ⟨rfl, e⟩ | ⟨q1, h1⟩
    · cases e
      rcases getset h2 with ⟨rfl, e⟩ | ⟨q2, h2⟩
      · rfl
      · rcases getset hk with ⟨rfl, _⟩ | ⟨_, hk⟩
        · exact absurd rfl q2
        · exact absurd h2 (hn _ _ hk)
    rcases getset hj with ⟨rfl, _⟩ | ⟨_, hj⟩
    · exact absurd rfl q1
    rcases getset h2 with ⟨rfl, e⟩ | ⟨q2, h2⟩
    · cases e; exact absurd h1 (hn _ _ hj)
    rcases getset hk with ⟨rfl, _⟩ | ⟨_, hk⟩
    · exact absurd rfl q2
    exact E.inj j k sv sv' m hj hk h1 h2
theorem Env.drop (E : Env A ρ S) (i : Nat) (o : Option Val) : Env (A.set i none) (ρ.set i o) S where
  len := by simpa using E.len
  at' := fun j sv h => by
    rcases getset h with ⟨rfl, e⟩ | ⟨q, h⟩
    · cases e
    · obtain ⟨v, h1, h2⟩ := E.at' j sv h
      exact ⟨v, setget h1 q, h2⟩
  inj := fun j k sv sv' n hj hk h1 h2 => by
    rcases getset hj with ⟨rfl, e⟩ | ⟨q1, hj⟩
    · cases e
    rcases getset hk with ⟨rfl, e⟩ | ⟨q2, hk⟩
    · cases e
    rw [List.getElem?_set_ne q1] at h1
    rw [List.getElem?_set_ne q2] at h2
    exact E.inj j k sv sv' n hj hk h1 h2
theorem Env.drop0 (E : Env A ρ S) (i : Nat) : Env (A.set i none) ρ S where
  len := by simpa using E.len
  at' := fun j sv h => by
    rcases getset h with ⟨rfl, e⟩ | ⟨q, h⟩
    · cases e
    · exact E.at' j sv h
  inj := fun j k sv sv' n hj hk h1 h2 => by
    rcases getset hj with ⟨rfl, e⟩ | ⟨q1, hj⟩
    · cases e
    rcases getset hk with ⟨rfl, e⟩ | ⟨q2, hk⟩
    · cases e
    exact E.inj j k sv sv' n hj hk h1 h2
/-- the store is changed where no slot is -/
theorem Env.off (E : Env A ρ S) (h : ∀ (i : Nat) (sv : SV) (n : Nat) (o : O), A[i]? = some (some sv) → ρ[i]? = some (some (.loc n)) → S[n]? = some (some o) → S'[n]? = some (some o)) : Env A ρ S' where
  len := E.len
  at' := fun j sv hj => by
    obtain ⟨v, h1, h2⟩ := E.at' j sv hj
    refine ⟨v, h1, ?_⟩
    cases sv with
    | dat d => exact h2
    | ob o => obtain ⟨n, rfl, e⟩ := h2; exact ⟨n, rfl, h j _ n o hj h1 e⟩
    | par k o => obtain ⟨rfl, e⟩ := h2; exact ⟨rfl, h j _ k o hj h1 e⟩
    | scr ds => exact h2
    | er o => exact h2
  inj := E.inj
theorem Env.grow (E : Env A ρ S) (x : Option O) : Env A ρ (S ++ [x]) := E.off fun i sv n o _ _ h => by
  rw [List.getElem?_append_left (lt_of_get h)]; exact h
def SV.wo (o : O) : SV → SV
  | .ob _ => .ob o
  | .par j _ => .par j o
  | v => v
/-- the object of a slot is changed -/
theorem Env.setO (E : Env A ρ S) {i n : Nat} {sv : SV} (o : O) (hi : A[i]? = some (some sv)) (hr : ρ[i]? = some (some (.loc n))) : Env (A.set i (some (sv.wo o))) ρ (S.set n (some o)) where
  len := by simpa using E.len
  at' := fun j sv' h => by
    obtain ⟨w, hw1, hw2⟩ := E.at' i sv hi
    rw [hr] at hw1; cases hw1
    obtain ⟨o0, hS, hs⟩ := hw2.loc
    have hl := lt_of_get hS
    rcases getset h with ⟨rfl, e⟩ | ⟨q, h⟩
    · cases e
      refine ⟨.loc n, hr, ?_⟩
      rcases hs with rfl | rfl
      · exact ⟨n, rfl, List.getElem?_set_self hl⟩
      · exact ⟨rfl, List.getElem?_set_self hl⟩
    · obtain ⟨v, h1, h2⟩ := E.at' j sv' h
      refine ⟨v, h1, ?_⟩
      have hne : ∀ m, v = .loc m → n ≠ m := fun m e z => by
        subst e z; exact q (E.inj i j sv sv' n hi h hr h1)
      cases sv' with
      | dat d => exact h2
      | ob o' => obtain ⟨m, rfl, e⟩ := h2; exact ⟨m, rfl, setget e (hne m rfl)⟩
      | par k o' => obtain ⟨rfl, e⟩ := h2; exact ⟨rfl, setget e (hne k rfl)⟩
      | scr ds => exact h2
      | er o => exact h2
  inj := fun j k s s' m hj hk h1 h2 => by
    have g : ∀ (j : Nat) (s : SV), (A.set i (some (sv.wo o)))[j]? = some (some s) → ∃ s0, A[j]? = some (some s0) := fun j s h => by
      rcases getset h with ⟨rfl, e⟩ | ⟨q, h⟩
      · exact ⟨sv, hi⟩
      · exact ⟨s, h⟩
    obtain ⟨s0, hj⟩ := g j s hj
    obtain ⟨s1, hk⟩ := g k s' hk
    exact E.inj j k s0 s1 m hj hk h1 h2
/-- less is known -/
inductive Weak : AS → AS → Prop
  | nil : Weak [] []
  | keep {x : Option SV} {B A : AS} : Weak B A → Weak (x :: B) (x :: A)
  | drop {x : Option SV} {B A : AS} : Weak B A → Weak (x :: B) (none :: A)
theorem Weak.refl : ∀ A : AS, Weak A A
  | [] => .nil
  | _ :: A => .keep (Weak.refl A)
theorem Weak.len : ∀ {B A : AS}, Weak B A → B.length = A.length
  | _, _, .nil => rfl
  | _, _, .keep h => by simp [h.len]
  | _, _, .drop h => by simp [h.len]
theorem Weak.get : ∀ {B A : AS}, Weak B A → ∀ {i : Nat} {sv : SV}, A[i]? = some (some sv) → B[i]? = some (some sv)
  | _, _, .nil, i, sv, h => by simp at h
  | _, _, .keep w, 0, sv, h => h
  | _, _, .keep w, i + 1, sv, h => by simp at h ⊢; exact w.get h
  | _, _, .drop w, 0, sv, h => by simp at h
  | _, _, .drop w, i + 1, sv, h => by simp at h ⊢; exact w.get h
theorem Env.weak (E : Env B ρ S) (w : Weak B A) : Env A ρ S where
  len := E.len.trans w.len
  at' := fun i sv h => E.at' i sv (w.get h)
  inj := fun i j sv sv' n hi hj => E.inj i j sv sv' n (w.get hi) (w.get hj)
end
/-! ### steps -/
theorem bind_st {α γ : Type} (r : R α) (f : α → Sto → R γ) (ρ : Ev) (k : γ → Sto → R Flow) : (r.bind f).st ρ k = r.st ρ fun a S => (f a S).st ρ k := by cases r <;> rfl
theorem st_fl {α : Type} (r : R α) (ρ : Ev) (g : α → Sto → R Flow) (k : Ev → Sto → R Flow) : (r.st ρ g).fl k = r.st ρ fun a S => (g a S).fl k := by cases r <;> rfl
/-- what an expression's value looks like as data -/
def Lk (A : AS) : RV → D → Prop
  | .dat e, d => d = e
  | .sl i, d => ∃ o, (A[i]? = some (some (.ob o)) ∨ ∃ j, A[i]? = some (some (.par j o))) ∧ d = objD o
  | _, _ => False
def LkR (A : AS) : RV → D → Prop
  | .scr ds, d => d = .list ds
  | r, d => Lk A r d
def VR1 (ρ : Ev) : RV → Val → Prop
  | .dat d, v => v = .d d
  | .sl i, v => ρ[i]? = some (some v)
  | .new _, _ => False
  | .scr ds, v => v = .scr ds
  | .er o, v => v = erV o
theorem VR.one {A : AS} {ρ : Ev} {S : Sto} {r : RV} {v : Val} {d : D} (h : VR A ρ S r v) {A' : AS} (l : LkR A' r d) : VR1 ρ r v := by
  cases r with
  | dat d => exact h
  | sl i => obtain ⟨n, sv, o, h1, h2, h3, h4⟩ := h; exact h2
  | new o => exact l.elim
  | scr ds => exact h
  | er o => exact h
theorem Lk.r {A : AS} {r : RV} {d : D} (h : Lk A r d) : LkR A r d := by
  cases r with
  | dat e => exact h
  | sl i => exact h
  | new o => exact h.elim
  | scr ds => exact h.elim
  | er o => exact h.elim
theorem look_obj {S : Sto} {n : Nat} {o : O} (h : S[n]? = some (some o)) : look S (.loc n) = some (objD o) := by
  cases o <;> simp only [look, h, objD]
theorem Lk.look {A : AS} {ρ : Ev} {S : Sto} {r : RV} {v : Val} {d : D} (E : Env A ρ S) (h : VR1 ρ r v) (l : Lk A r d) : look S v = some d := by
  cases r with
  | dat e => cases h; cases l; rfl
  | sl i =>
    obtain ⟨o, h1, rfl⟩ := l
    rcases h1 with h1 | ⟨j, h1⟩
    · obtain ⟨w, e, n, rfl, hS⟩ := E.at' i _ h1
      rw [h] at e; cases e
      exact look_obj hS
    · obtain ⟨w, e, rfl, hS⟩ := E.at' i _ h1
      rw [h] at e; cases e
      exact look_obj hS
  | new o => exact h.elim
  | scr ds => exact l.elim
  | er o => exact l.elim
theorem look_R {S : Sto} {v : Val} {d : D} (h : look S v = some d) : lookR S v = some d := by
  cases v with
  | d x => exact h
  | loc n => exact h
  | scr ds => cases h
  | er x => cases h
theorem LkR.look {A : AS} {ρ : Ev} {S : Sto} {r : RV} {v : Val} {d : D} (E : Env A ρ S) (h : VR1 ρ r v) (l : LkR A r d) : lookR S v = some d := by
  cases r with
  | scr ds => cases h; cases l; rfl
  | er o => exact l.elim
  | dat e => exact look_R (Lk.look E h l)
  | sl i => exact look_R (Lk.look E (r := .sl i) h l)
  | new o => exact h.elim
/-- an operation, and what comes of it -/
def Fin {β : Type} (o : Option D) (A : AS) (t : Q β) (κ : RV → AS → Q β → Prop) : Prop := t ≠ .bad → ∃ d, o = some d ∧ κ (.dat d) A t
section
variable {β : Type} {Γ : Gx β} {A : AS} {t : Q β}
theorem fin_ok {o : Option D} {d : D} {κ : RV → AS → Q β → Prop} (h : o = some d) (hk : κ (.dat d) A t) : Fin o A t κ := fun _ => ⟨d, h, hk⟩
theorem fin_of {α : Type} {o : Option D} {o' : Option α} {k : α → Q β} {κ : RV → AS → Q β → Prop} (f : α → D) (h : o = o'.map f) (hk : ∀ a, κ (.dat (f a)) A (k a)) : Fin o A ((Q.of o').bind k) κ := fun hb => by
  cases o' with
  | none => exact absurd rfl hb
  | some a => exact ⟨f a, h, hk a⟩
/-- an operation that the typed one lets be done more often than it is shown -/
theorem fin_imp {α : Type} {o : Option D} {o' : Option α} {k : α → Q β} {κ : RV → AS → Q β → Prop} (f : α → D) (h : ∀ a, o' = some a → o = some (f a)) (hk : ∀ a, κ (.dat (f a)) A (k a)) : Fin o A ((Q.of o').bind k) κ := fun hb => by
  cases o' with
  | none => exact absurd rfl hb
  | some a => exact ⟨f a, h a rfl, hk a⟩
theorem Ref.bad {r : R Flow} : Ref Γ r .bad := trivial
theorem ref_ofO {ρ : Ev} {S : Sto} {o : Option D} {κ : RV → AS → Q β → Prop} {k : Val → Sto → R Flow} (E : Env A ρ S) (hf : Fin o A t κ)
    (hc : ∀ rv v B S' t', κ rv B t' → Env B ρ S' → VR B ρ S' rv v → Ref Γ (k v S') t') : Ref Γ ((ofO o S).st ρ k) t := by
  by_cases hb : t = .bad
  · rw [hb]; trivial
  · obtain ⟨d, rfl, hk⟩ := hf hb
    exact hc _ _ _ _ _ hk E rfl
theorem ce_pure {e : Ex} {d : D} {κ : RV → AS → Q β → Prop} (h : PE1 e A d) (hk : κ (.dat d) A t) : CE e A t κ Γ := fun ρ S k E hc => by
  rw [h ρ S E]; exact hc _ _ _ _ _ hk E rfl
theorem ce_mut {i : Nat} {o : O} {κ : RV → AS → Q β → Prop} (h : A[i]? = some (some (.ob o))) (hk : κ (.sl i) A t) : CE (eVar i) A t κ Γ := fun ρ S k E hc => by
  obtain ⟨v, h1, n, rfl, h3⟩ := E.at' i _ h
  simp only [eVar, h1, R.st]
  exact hc _ _ _ _ _ hk E ⟨n, _, o, h, h1, rfl, h3⟩
theorem ce_par {i j : Nat} {o : O} {κ : RV → AS → Q β → Prop} (h : A[i]? = some (some (.par j o))) (hk : κ (.sl i) A t) : CE (eVar i) A t κ Γ := fun ρ S k E hc => by
  obtain ⟨v, h1, rfl, h3⟩ := E.at' i _ h
  simp only [eVar, h1, R.st]
  exact hc _ _ _ _ _ hk E ⟨j, _, o, h, h1, rfl, h3⟩
theorem ce_scr {i : Nat} {ds : List D} {κ : RV → AS → Q β → Prop} (h : A[i]? = some (some (.scr ds))) (hk : κ (.scr ds) A t) : CE (eVar i) A t κ Γ := fun ρ S k E hc => by
  obtain ⟨v, h1, h2⟩ := E.at' i _ h
  cases h2
  simp only [eVar, h1, R.st]
  exact hc _ _ _ _ _ hk E rfl
theorem ce_bin {op : D → D → Option D} {e1 e2 : Ex} {κ : RV → AS → Q β → Prop}
    (h : CE e1 A t (fun r1 A1 t1 => CE e2 A1 t1 (fun r2 A2 t2 => ∃ d1 d2, Lk A2 r1 d1 ∧ Lk A2 r2 d2 ∧ Fin (op d1 d2) A2 t2 κ) Γ) Γ) : CE (eBin op e1 e2) A t κ Γ := fun ρ S k E hc => by
  simp only [eBin, bind_st]
  refine h ρ S _ E fun r1 v1 B1 S1 t1 h1 E1 q1 => ?_
  refine h1 ρ S1 _ E1 fun r2 v2 B2 S2 t2 h2 E2 q2 => ?_
  obtain ⟨d1, d2, l1, l2, hf⟩ := h2
  simp only [op2, Lk.look E2 (q1.one l1.r) l1, Lk.look E2 (q2.one l2.r) l2, Option.bind]
  exact ref_ofO E2 hf hc
theorem ce_ix {e1 e2 : Ex} {κ : RV → AS → Q β → Prop}
    (h : CE e1 A t (fun r1 A1 t1 => CE e2 A1 t1 (fun r2 A2 t2 => ∃ d1 d2, LkR A2 r1 d1 ∧ Lk A2 r2 d2 ∧ Fin (ixD d1 d2) A2 t2 κ) Γ) Γ) : CE (eIx e1 e2) A t κ Γ := fun ρ S k E hc => by
  simp only [eIx, bind_st]
  refine h ρ S _ E fun r1 v1 B1 S1 t1 h1 E1 q1 => ?_
  refine h1 ρ S1 _ E1 fun r2 v2 B2 S2 t2 h2 E2 q2 => ?_
  obtain ⟨d1, d2, l1, l2, hf⟩ := h2
  simp only [op2R, LkR.look E2 (q1.one l1) l1, Lk.look E2 (q2.one l2.r) l2, Option.bind]
  exact ref_ofO E2 hf hc
theorem ce_sl {e : Ex} {l h : Po} {κ : RV → AS → Q β → Prop}
    (he : CE e A t (fun r1 A1 t1 => ∃ lo hi d, PO1 l A1 lo ∧ PO1 h A1 hi ∧ LkR A1 r1 d ∧ Fin (slD lo hi d) A1 t1 κ) Γ) : CE (eSl e l h) A t κ Γ := fun ρ S k E hc => by
  simp only [eSl, bind_st]
  refine he ρ S _ E fun r1 v1 B1 S1 t1 h1 E1 q1 => ?_
  obtain ⟨lo, hi, d, a1, a2, l1, hf⟩ := h1
  simp only [a1 ρ S1 E1, a2 ρ S1 E1, R.st, LkR.look E1 (q1.one l1) l1, Option.bind]
  exact ref_ofO E1 hf hc
def COp {β : Type} (e : Po) (A : AS) (t : Q β) (κ : Option Int → AS → Q β → Prop) (Γ : Gx β) : Prop :=
  ∀ ρ S k, Env A ρ S → (∀ o B S' t', κ o B t' → Env B ρ S' → Ref Γ (k o S') t') → Ref Γ ((e ρ S).st ρ k) t
theorem cop_none {κ : Option Int → AS → Q β → Prop} (h : κ none A t) : COp pNone A t κ Γ := fun ρ S k E hc => hc _ _ _ _ h E
theorem cop_some {e : Ex} {κ : Option Int → AS → Q β → Prop} (h : CE e A t (fun rv B t' => ∃ i, rv = .dat (.int i) ∧ κ (some i) B t') Γ) : COp (pSome e) A t κ Γ := fun ρ S k E hc => by
  simp only [pSome, bind_st]
  refine h ρ S _ E fun r1 v1 B1 S1 t1 h1 E1 q1 => ?_
  obtain ⟨i, rfl, hk⟩ := h1
  cases q1
  exact hc _ _ _ _ hk E1
theorem ce_sl2 {e : Ex} {l h : Po} {κ : RV → AS → Q β → Prop}
    (he : CE e A t (fun r1 A1 t1 => COp l A1 t1 (fun lo A2 t2 => COp h A2 t2 (fun hi A3 t3 => ∃ d, LkR A3 r1 d ∧ Fin (slD lo hi d) A3 t3 κ) Γ) Γ) Γ) : CE (eSl e l h) A t κ Γ := fun ρ S k E hc => by
  simp only [eSl, bind_st]
  refine he ρ S _ E fun r1 v1 B1 S1 t1 h1 E1 q1 => ?_
  refine h1 ρ S1 _ E1 fun lo B2 S2 t2 h2 E2 => ?_
  refine h2 ρ S2 _ E2 fun hi B3 S3 t3 h3 E3 => ?_
  obtain ⟨d, l1, hf⟩ := h3
  simp only [LkR.look E3 (q1.one l1) l1, Option.bind]
  exact ref_ofO E3 hf hc
theorem ce_rev {e : Ex} {κ : RV → AS → Q β → Prop}
    (he : CE e A t (fun r1 A1 t1 => ∃ d, LkR A1 r1 d ∧ Fin (revD d) A1 t1 κ) Γ) : CE (eRev e) A t κ Γ := fun ρ S k E hc => by
  simp only [eRev, bind_st]
  refine he ρ S _ E fun r1 v1 B1 S1 t1 h1 E1 q1 => ?_
  obtain ⟨d, l1, hf⟩ := h1
  simp only [LkR.look E1 (q1.one l1) l1, Option.bind]
  exact ref_ofO E1 hf hc
/-! arguments -/
theorem ca_nil {κ : List RV → AS → Q β → Prop} (h : κ [] A t) : CA aNil A t κ Γ := fun ρ S k E hc => hc _ _ _ _ _ h E .nil (by simp [newLocs])
theorem ca_dat {e : Ex} {r : La} {κ : List RV → AS → Q β → Prop} (h : CE e A t (fun rv B t' => ∃ d, rv = .dat d ∧ CA r B t' (fun rvs C t'' => κ (.dat d :: rvs) C t'') Γ) Γ) : CA (aCons e r) A t κ Γ := fun ρ S k E hc => by
  simp only [aCons, bind_st]
  refine h ρ S _ E fun r1 v1 B1 S1 t1 h1 E1 q1 => ?_
  obtain ⟨d, rfl, h1⟩ := h1
  refine h1 ρ S1 _ E1 fun r2 v2 B2 S2 t2 h2 E2 q2 n2 => ?_
  exact hc _ _ _ _ _ h2 E2 (.cons q1 q2) (by simpa [newLocs] using n2)
theorem ca_pure {r : La} {ds : List D} {κ : List RV → AS → Q β → Prop} (h : PA1 r A ds) (hk : κ (ds.map .dat) A t) : CA r A t κ Γ := fun ρ S k E hc => by
  rw [h ρ S E]
  refine hc _ _ _ _ _ hk E ?_ ?_
  · clear h hk
    induction ds with
    | nil => exact .nil
    | cons d r ih => exact .cons rfl ih
  · clear h hk
    induction ds with
    | nil => simp [newLocs]
    | cons d r ih => simpa [newLocs] using ih
def IsOb (A : AS) (i : Nat) : Prop := ∃ o, A[i]? = some (some (.ob o)) ∨ ∃ j, A[i]? = some (some (.par j o))
theorem IsOb.m {i : Nat} {o : O} (h : A[i]? = some (some (.ob o))) : IsOb A i := ⟨o, .inl h⟩
theorem IsOb.p {i j : Nat} {o : O} (h : A[i]? = some (some (.par j o))) : IsOb A i := ⟨o, .inr ⟨j, h⟩⟩
theorem IsOb.at {i : Nat} (h : IsOb A i) {ρ : Ev} {S : Sto} (E : Env A ρ S) : ∃ n sv o, A[i]? = some (some sv) ∧ ρ[i]? = some (some (.loc n)) ∧ S[n]? = some (some o) ∧ (sv = .ob o ∨ sv = .par n o) := by
  obtain ⟨o, h | ⟨j, h⟩⟩ := h
  · obtain ⟨v, h1, n, rfl, h3⟩ := E.at' i _ h; exact ⟨n, _, o, h, h1, h3, .inl rfl⟩
  · obtain ⟨v, h1, rfl, h3⟩ := E.at' i _ h; exact ⟨j, _, o, h, h1, h3, .inr rfl⟩
theorem ca_sl {i : Nat} {r : La} {κ : List RV → AS → Q β → Prop} (hi : IsOb A i) (h : CA r A t (fun rvs C t'' => IsOb C i ∧ κ (.sl i :: rvs) C t'') Γ) : CA (aCons (eVar i) r) A t κ Γ := fun ρ S k E hc => by
  obtain ⟨n, sv, o, h0, h1, h3, h4⟩ := hi.at E
  simp only [aCons, bind_st]
  simp only [eVar, h1, R.st]
  refine h ρ S _ E fun r2 v2 B2 S2 t2 h2 E2 q2 n2 => ?_
  obtain ⟨m, sv', o', g0, g1, g3, g4⟩ := h2.1.at E2
  refine hc _ _ _ _ _ h2.2 E2 (.cons ⟨n, sv', o', g0, h1, rfl, ?_⟩ q2) (by simpa [newLocs] using n2)
  rw [h1] at g1; cases g1; exact g3
theorem ca_scr {i : Nat} {ds : List D} {r : La} {κ : List RV → AS → Q β → Prop} (hi : A[i]? = some (some (.scr ds))) (h : CA r A t (fun rvs C t'' => κ (.scr ds :: rvs) C t'') Γ) : CA (aCons (eVar i) r) A t κ Γ := fun ρ S k E hc => by
  obtain ⟨v, h1, h2⟩ := E.at' i _ hi
  cases h2
  simp only [aCons, bind_st]
  simp only [eVar, h1, R.st]
  refine h ρ S _ E fun r2 v2 B2 S2 t2 h2 E2 q2 n2 => ?_
  exact hc _ _ _ _ _ h2 E2 (.cons rfl q2) (by simpa [newLocs] using n2)
theorem vr_new0 {ρ : Ev} {S : Sto} (E : Env A ρ S) (o : O) : VR A ρ (S ++ [some o]) (.new o) (.loc S.length) := by
  refine ⟨S.length, rfl, by simp, fun i sv hi he => ?_⟩
  obtain ⟨v, h1, h2⟩ := E.at' i sv hi
  rw [he] at h1; cases h1
  obtain ⟨o', hS, _⟩ := h2.loc
  exact absurd (lt_of_get hS) (Nat.lt_irrefl _)
theorem vrs_dats {B : AS} {ρ : Ev} {S : Sto} : ∀ ds : List D, VRs B ρ S (ds.map .dat) (ds.map .d)
  | [] => .nil
  | d :: r => .cons rfl (vrs_dats r)
theorem newLocs_dats : ∀ (ds : List D), newLocs (ds.map .dat) (ds.map .d) = []
  | [] => rfl
  | d :: r => by simpa [newLocs] using newLocs_dats r
/-- two new objects, the second one of a call of data alone -/
theorem ca_new2 {e e2 : Ex} {r : La} {κ : List RV → AS → Q β → Prop} (h : CE e A t (fun rv B t' => ∃ (o : O) (α : Type) (q : Q α) (o2 : α → O) (k : α → Q β) (ds : List D), rv = .new o ∧ (∀ ρ S, Env B ρ S → ∀ a, q = .ok a → e2 ρ S = .ok (.loc S.length) (S ++ [some (o2 a)])) ∧ PA1 r B ds ∧ t' = q.noX.bind k ∧ ∀ a, κ (.new o :: .new (o2 a) :: ds.map .dat) B (k a)) Γ) : CA (aCons e (aCons e2 r)) A t κ Γ := fun ρ S k E hc => by
  simp only [aCons, bind_st]
  refine h ρ S _ E fun r1 v1 B1 S1 t1 h1 E1 q1 => ?_
  obtain ⟨o, α, q, o2, k2, ds, rfl, h1, h2, rfl, h3⟩ := h1
  cases q with
  | bad => trivial
  | exc x es => trivial
  | ok a =>
    have E2 := E1.grow (some (o2 a))
    simp only [h1 ρ S1 E1 a rfl, R.st, h2 ρ _ E2, Q.ok_noX, Q.ok_bind]
    obtain ⟨n, rfl, hS, hn⟩ := q1
    have hlt := lt_of_get hS
    refine hc _ _ _ _ _ (h3 a) E2 (.cons ⟨n, rfl, by rw [List.getElem?_append_left hlt]; exact hS, hn⟩ (.cons (vr_new0 E1 _) (vrs_dats ds))) ?_
    simp [newLocs, newLocs_dats]
    omega
theorem ca_new {e : Ex} {r : La} {κ : List RV → AS → Q β → Prop} (h : CE e A t (fun rv B t' => ∃ o ds, rv = .new o ∧ PA1 r B ds ∧ κ (.new o :: ds.map .dat) B t') Γ) : CA (aCons e r) A t κ Γ := fun ρ S k E hc => by
  simp only [aCons, bind_st]
  refine h ρ S _ E fun r1 v1 B1 S1 t1 h1 E1 q1 => ?_
  obtain ⟨o, ds, rfl, h1, h2⟩ := h1
  simp only [h1 ρ S1 E1, R.st]
  refine hc _ _ _ _ _ h2 E1 (.cons q1 (vrs_dats ds)) ?_
  obtain ⟨n, rfl, _, _⟩ := q1
  simp [newLocs, newLocs_dats]
inductive LkA (A : AS) : List RV → List D → Prop
  | nil : LkA A [] []
  | cons {r : RV} {d : D} {rs : List RV} {ds : List D} : LkR A r d → LkA A rs ds → LkA A (r :: rs) (d :: ds)
theorem LkA.look {ρ : Ev} {S : Sto} (E : Env A ρ S) : ∀ {rs : List RV} {ds : List D} {vs : List Val}, LkA A rs ds → VRs A ρ S rs vs → lookAll S vs = some ds
  | _, _, _, .nil, .nil => rfl
  | _, _, _, .cons h t, .cons g s => by
    simp only [lookAll, h.look E (g.one h), LkA.look E t s, Option.bind, Option.map]
theorem ce_cb {op : List D → Option D} {f : La} {κ : RV → AS → Q β → Prop} (h : CA f A t (fun rvs B t' => ∃ ds, LkA B rvs ds ∧ Fin (op ds) B t' κ) Γ) : CE (eCB op f) A t κ Γ := fun ρ S k E hc => by
  simp only [eCB, bind_st]
  refine h ρ S _ E fun rs vs B S1 t1 h1 E1 q1 _ => ?_
  obtain ⟨ds, l, hf⟩ := h1
  simp only [l.look E1 q1, Option.bind]
  exact ref_ofO E1 hf hc
theorem VRs.dats {ρ : Ev} {S : Sto} : ∀ {ds : List D} {vs : List Val}, VRs A ρ S (ds.map .dat) vs → vs = ds.map .d
  | [], _, .nil => rfl
  | d :: ds, _, .cons h t => by cases h; rw [t.dats]; rfl
theorem ce_tup {f : La} {κ : RV → AS → Q β → Prop} (h : CA f A t (fun rvs B t' => ∃ ds, rvs = ds.map .dat ∧ ds.length ≤ 1000 ∧ κ (.dat (.tuple ds)) B t') Γ) : CE (eTup f) A t κ Γ := fun ρ S k E hc => by
  simp only [eTup, bind_st]
  refine h ρ S _ E fun rs vs B S1 t1 h1 E1 q1 _ => ?_
  obtain ⟨ds, rfl, hl, hk⟩ := h1
  simp only [q1.dats, mkSeq, allD_map, hl, if_true, R.st]
  exact hc _ _ _ _ _ hk E1 rfl
theorem ce_lst {f : La} {κ : RV → AS → Q β → Prop} (h : CA f A t (fun rvs B t' => ∃ ds, rvs = ds.map .dat ∧ ds.length ≤ 1000 ∧ κ (.dat (.list ds)) B t') Γ) : CE (eLst f) A t κ Γ := fun ρ S k E hc => by
  simp only [eLst, bind_st]
  refine h ρ S _ E fun rs vs B S1 t1 h1 E1 q1 _ => ?_
  obtain ⟨ds, rfl, hl, hk⟩ := h1
  simp only [q1.dats, mkSeq, allD_map, hl, if_true, R.st]
  exact hc _ _ _ _ _ hk E1 rfl
theorem vr_new {ρ : Ev} {S : Sto} (E : Env A ρ S) (o : O) : VR A ρ (S ++ [some o]) (.new o) (.loc S.length) := by
  refine ⟨S.length, rfl, by simp, fun i sv hi he => ?_⟩
  obtain ⟨v, h1, h2⟩ := E.at' i sv hi
  rw [he] at h1; cases h1
  obtain ⟨o', hS, _⟩ := h2.loc
  exact absurd (lt_of_get hS) (Nat.lt_irrefl _)
theorem ce_lstM {f : La} {κ : RV → AS → Q β → Prop} (h : CA f A t (fun rvs B t' => ∃ ds, rvs = ds.map .dat ∧ ds.length ≤ 1000 ∧ κ (.new (.lst ds)) B t') Γ) : CE (eLstM f) A t κ Γ := fun ρ S k E hc => by
  simp only [eLstM, bind_st]
  refine h ρ S _ E fun rs vs B S1 t1 h1 E1 q1 _ => ?_
  obtain ⟨ds, rfl, hl, hk⟩ := h1
  simp only [q1.dats, mkLoc, allD_map, hl, if_true, R.st]
  exact hc _ _ _ _ _ hk (E1.grow _) (vr_new E1 _)
theorem ce_dicM {κ : RV → AS → Q β → Prop} (hk : κ (.new (.dic [])) A t) : CE eDicM A t κ Γ := fun ρ S k E hc =>
  hc _ _ _ _ _ hk (E.grow _) (vr_new E _)
theorem ce_frz {e : Ex} {κ : RV → AS → Q β → Prop} (h : CE e A t (fun rv B t' => (∃ d, rv = .dat d ∧ κ (.dat d) B t') ∨ (∃ o, rv = .new o ∧ κ (.dat (objD o)) B t') ∨ ∃ i o, rv = .sl i ∧ B[i]? = some (some (.ob o)) ∧ κ (.dat (objD o)) (B.set i none) t') Γ) : CE (eFrz e) A t κ Γ := fun ρ S k E hc => by
  simp only [eFrz, bind_st]
  refine h ρ S _ E fun r1 v1 B S1 t1 h1 E1 q1 => ?_
  have off : ∀ {C : AS} {n : Nat}, Env C ρ S1 → (∀ (i : Nat) (sv : SV), C[i]? = some (some sv) → ρ[i]? ≠ some (some (.loc n))) → Env C ρ (S1.set n none) := fun E2 hn => E2.off fun i sv m o hi hr hS => setget hS fun e => by
    subst e; exact hn i sv hi hr
  rcases h1 with ⟨d, rfl, hk⟩ | ⟨o, rfl, hk⟩ | ⟨i, o, rfl, hi, hk⟩
  · cases q1
    exact hc _ _ _ _ _ hk E1 rfl
  · obtain ⟨n, rfl, hS, hn⟩ := q1
    simp only [frzV, hS, R.st]
    exact hc _ _ _ _ _ hk (off E1 hn) rfl
  · obtain ⟨n, sv, o', g0, g1, rfl, g4⟩ := q1
    obtain ⟨w, e1, m, rfl, e3⟩ := E1.at' i _ hi
    rw [g1] at e1; cases e1
    simp only [frzV, e3, R.st]
    refine hc _ _ _ _ _ hk (off (E1.drop0 i) fun j sv hj hr => ?_) rfl
    rcases getset hj with ⟨rfl, e⟩ | ⟨q, hj⟩
    · cases e
    · exact q (E1.inj i j _ _ _ hi hj g1 hr)
/-! tests -/
theorem ct_pure {e : Te} {b : Bool} {κ : Bool → AS → Q β → Prop} (h : PT1 e A b) (hk : κ b A t) : CT e A t κ Γ := fun ρ S k E hc => by
  rw [h ρ S E]; exact hc _ _ _ _ hk E
theorem ct_of {e : Ex} {κ : Bool → AS → Q β → Prop} (h : CE e A t (fun rv B t' => ∃ b, rv = .dat (.bool b) ∧ κ b B t') Γ) : CT (tOf e) A t κ Γ := fun ρ S k E hc => by
  simp only [tOf, bind_st]
  refine h ρ S _ E fun r1 v1 B S1 t1 h1 E1 q1 => ?_
  obtain ⟨b, rfl, hk⟩ := h1
  cases q1
  exact hc _ _ _ _ hk E1
theorem ct_tru {e : Ex} {κ : Bool → AS → Q β → Prop} (h : CE e A t (fun rv B t' => ∃ d b, Lk B rv d ∧ truthD d = some b ∧ κ b B t') Γ) : CT (tTru e) A t κ Γ := fun ρ S k E hc => by
  simp only [tTru, bind_st]
  refine h ρ S _ E fun r1 v1 B S1 t1 h1 E1 q1 => ?_
  obtain ⟨d, b, l, hb, hk⟩ := h1
  simp only [truV, Lk.look E1 (q1.one l.r) l, Option.bind, hb]
  exact hc _ _ _ _ hk E1
theorem ct_not {e : Te} {κ : Bool → AS → Q β → Prop} (h : CT e A t (fun b B t' => κ (!b) B t') Γ) : CT (tNotE e) A t κ Γ := fun ρ S k E hc => by
  simp only [tNotE, bind_st]
  refine h ρ S _ E fun b B S1 t1 h1 E1 => ?_
  exact hc _ _ _ _ h1 E1
theorem ct_and {e f : Te} {κ : Bool → AS → Q β → Prop} (h : CT e A t (fun b B t' => (b = true → CT f B t' κ Γ) ∧ (b = false → κ false B t')) Γ) : CT (tAndE e f) A t κ Γ := fun ρ S k E hc => by
  simp only [tAndE, bind_st]
  refine h ρ S _ E fun b B S1 t1 h1 E1 => ?_
  cases b with
  | true => exact h1.1 rfl ρ S1 _ E1 hc
  | false => exact hc _ _ _ _ (h1.2 rfl) E1
theorem ct_or {e f : Te} {κ : Bool → AS → Q β → Prop} (h : CT e A t (fun b B t' => (b = false → CT f B t' κ Γ) ∧ (b = true → κ true B t')) Γ) : CT (tOrE e f) A t κ Γ := fun ρ S k E hc => by
  simp only [tOrE, bind_st]
  refine h ρ S _ E fun b B S1 t1 h1 E1 => ?_
  cases b with
  | false => exact h1.1 rfl ρ S1 _ E1 hc
  | true => exact hc _ _ _ _ (h1.2 rfl) E1
theorem ce_and {e f : Ex} {κ : RV → AS → Q β → Prop} (h : CE e A t (fun r B t' => ∃ b, r = .dat (.bool b) ∧ (b = true → CE f B t' κ Γ) ∧ (b = false → κ (.dat (.bool false)) B t')) Γ) : CE (eAnd e f) A t κ Γ := fun ρ S k E hc => by
  simp only [eAnd, bind_st]
  refine h ρ S _ E fun r v B S1 t1 h1 E1 q1 => ?_
  obtain ⟨b, rfl, h1⟩ := h1
  cases q1
  cases b with
  | true => exact h1.1 rfl ρ S1 _ E1 hc
  | false => exact hc _ _ _ _ _ (h1.2 rfl) E1 rfl
theorem ce_or {e f : Ex} {κ : RV → AS → Q β → Prop} (h : CE e A t (fun r B t' => ∃ b, r = .dat (.bool b) ∧ (b = false → CE f B t' κ Γ) ∧ (b = true → κ (.dat (.bool true)) B t')) Γ) : CE (eOr e f) A t κ Γ := fun ρ S k E hc => by
  simp only [eOr, bind_st]
  refine h ρ S _ E fun r v B S1 t1 h1 E1 q1 => ?_
  obtain ⟨b, rfl, h1⟩ := h1
  cases q1
  cases b with
  | false => exact h1.1 rfl ρ S1 _ E1 hc
  | true => exact hc _ _ _ _ _ (h1.2 rfl) E1 rfl
theorem ce_not {e : Ex} {κ : RV → AS → Q β → Prop} (h : CE e A t (fun r B t' => ∃ b, r = .dat (.bool b) ∧ κ (.dat (.bool (!b))) B t') Γ) : CE (eNot e) A t κ Γ := fun ρ S k E hc => by
  simp only [eNot, bind_st]
  refine h ρ S _ E fun r v B S1 t1 h1 E1 q1 => ?_
  obtain ⟨b, rfl, h1⟩ := h1
  cases q1
  exact hc _ _ _ _ _ h1 E1 rfl
theorem ce_neg {e : Ex} {κ : RV → AS → Q β → Prop} (h : CE e A t (fun r B t' => ∃ i, r = .dat (.int i) ∧ κ (.dat (.int (-i))) B t') Γ) : CE (eNeg e) A t κ Γ := fun ρ S k E hc => by
  simp only [eNeg, bind_st]
  refine h ρ S _ E fun r v B S1 t1 h1 E1 q1 => ?_
  obtain ⟨b, rfl, h1⟩ := h1
  cases q1
  exact hc _ _ _ _ _ h1 E1 rfl
theorem ce_isi {T : String} {e : Ex} {κ : RV → AS → Q β → Prop} (h : CE e A t (fun r B t' => ∃ d, LkR B r d ∧ κ (.dat (.bool (isiD T d))) B t') Γ) : CE (eIsi T e) A t κ Γ := fun ρ S k E hc => by
  simp only [eIsi, bind_st]
  refine h ρ S _ E fun r v B S1 t1 h1 E1 q1 => ?_
  obtain ⟨d, l, hk⟩ := h1
  simp only [l.look E1 (q1.one l)]
  exact hc _ _ _ _ _ hk E1 rfl
theorem ce_if {te : Te} {e f : Ex} {κ : RV → AS → Q β → Prop} (h : CT te A t (fun b B t' => (b = true → CE e B t' κ Γ) ∧ (b = false → CE f B t' κ Γ)) Γ) : CE (eIf te e f) A t κ Γ := fun ρ S k E hc => by
  simp only [eIf, bind_st]
  refine h ρ S _ E fun b B S1 t1 h1 E1 => ?_
  cases b with
  | true => exact h1.1 rfl ρ S1 _ E1 hc
  | false => exact h1.2 rfl ρ S1 _ E1 hc
theorem ce_chain {op op' : D → D → Option D} {fa fb fc : Ex} {κ : RV → AS → Q β → Prop}
    (h : CE fa A t (fun r1 A1 t1 => CE fb A1 t1 (fun r2 A2 t2 => ∃ d1 d2 p, r1 = .dat d1 ∧ r2 = .dat d2 ∧ op d1 d2 = some (.bool p) ∧ (p = true → CE fc A2 t2 (fun r3 A3 t3 => ∃ d3, r3 = .dat d3 ∧ Fin (op' d2 d3) A3 t3 κ) Γ) ∧ (p = false → κ (.dat (.bool false)) A2 t2)) Γ) Γ) : CE (eChain op op' fa fb fc) A t κ Γ := fun ρ S k E hc => by
  simp only [eChain, bind_st]
  refine h ρ S _ E fun r1 v1 B1 S1 t1 h1 E1 q1 => ?_
  refine h1 ρ S1 _ E1 fun r2 v2 B2 S2 t2 h2 E2 q2 => ?_
  obtain ⟨d1, d2, p, rfl, rfl, ho, ht, hf⟩ := h2
  cases q1; cases q2
  have e2 : op2 op (.d d1) (.d d2) S2 = .ok (.d (.bool p)) S2 := by simp only [op2, look, Option.bind, ho, ofO]
  rw [e2]
  cases p with
  | false => exact hc _ _ _ _ _ (hf rfl) E2 rfl
  | true =>
    show Ref Γ (((fc ρ S2).bind fun x S4 => op2 op' (.d d2) x S4).st ρ k) t2
    rw [bind_st]
    refine ht rfl ρ S2 _ E2 fun r3 v3 B3 S3 t3 h3 E3 q3 => ?_
    obtain ⟨d3, rfl, hf⟩ := h3
    cases q3
    exact ref_ofO E3 hf hc
/-! joins -/
def Gj {σ : Type} (Γ : Gx β) (F : σ → RV) (AL : σ → AS) : Gx σ where
  G := fun fl s => match fl with
    | .nx B => Weak B (AL s)
    | .rt rv _ => rv = F s
    | _ => False
  E := Γ.E
theorem ce_join {σ : Type} {e : Ex} {q : Q σ} {t2 : σ → Q β} {κ : RV → AS → Q β → Prop} (F : σ → D) (AL : σ → AS)
    (h : CE e A q (fun rv B t => ∃ s, t = .ok s ∧ rv = .dat (F s) ∧ Weak B (AL s)) (Gj Γ (fun s => .dat (F s)) AL)) (hk : ∀ s, κ (.dat (F s)) (AL s) (t2 s)) : CE e A (q.bind t2) κ Γ := fun ρ S k E hc => by
  have k1 := h ρ S (fun v S' => .ok (.rt v) S') E fun rv v B S' t' ⟨s, h1, h2, h3⟩ E1 q1 => by
    subst h1; exact ⟨.rt rv B, ⟨ρ, E1, q1⟩, h2⟩
  have k2 := h ρ S (fun v S' => .ok (.nx ρ) S') E fun rv v B S' t' ⟨s, h1, h2, h3⟩ E1 q1 => by
    subst h1; exact ⟨.nx B, E1, h3⟩
  cases q with
  | bad => trivial
  | exc x os =>
    obtain ⟨ρ1, S1, B, e1, e2, e3⟩ := k1
    cases he : e ρ S with
    | bad => rw [he] at e1; cases e1
    | ok v S' => rw [he] at e1; cases e1
    | exc y S' =>
      rw [he] at e1; simp only [R.st] at e1; cases e1
      exact ⟨_, _, B, rfl, e2, e3⟩
  | ok s =>
    obtain ⟨fl, m1, g1⟩ := k1
    obtain ⟨fl2, m2, g2⟩ := k2
    cases he : e ρ S with
    | bad => rw [he] at m1; exact m1.elim
    | exc y S' => rw [he] at m1; exact m1.elim
    | ok v S' =>
      rw [he] at m1 m2
      simp only [R.st] at m1 m2 ⊢
      cases fl with
      | rt rv B =>
        obtain ⟨ρ', E', q'⟩ := m1
        cases fl2 with
        | nx B2 =>
          cases (show rv = .dat (F s) from g1)
          cases q'
          exact hc _ _ _ _ _ (hk s) ((show Env B2 ρ S' from m2).weak g2) rfl
        | _ => exact m2.elim
      | _ => exact m1.elim
theorem ct_join {σ : Type} {e : Te} {q : Q σ} {t2 : σ → Q β} {κ : Bool → AS → Q β → Prop} (F : σ → Bool) (AL : σ → AS)
    (h : CT e A q (fun b B t => ∃ s, t = .ok s ∧ b = F s ∧ Weak B (AL s)) (Gj Γ (fun s => .dat (.bool (F s))) AL)) (hk : ∀ s, κ (F s) (AL s) (t2 s)) : CT e A (q.bind t2) κ Γ := fun ρ S k E hc => by
  have k1 := h ρ S (fun b S' => .ok (.rt (.d (.bool b))) S') E fun b B S' t' ⟨s, h1, h2, h3⟩ E1 => by
    subst h1 h2; exact ⟨.rt (.dat (.bool (F s))) B, ⟨ρ, E1, rfl⟩, rfl⟩
  have k2 := h ρ S (fun v S' => .ok (.nx ρ) S') E fun b B S' t' ⟨s, h1, h2, h3⟩ E1 => by
    subst h1; exact ⟨.nx B, E1, h3⟩
  cases q with
  | bad => trivial
  | exc x os =>
    obtain ⟨ρ1, S1, B, e1, e2, e3⟩ := k1
    cases he : e ρ S with
    | bad => rw [he] at e1; cases e1
    | ok v S' => rw [he] at e1; cases e1
    | exc y S' =>
      rw [he] at e1; simp only [R.st] at e1; cases e1
      exact ⟨_, _, B, rfl, e2, e3⟩
  | ok s =>
    obtain ⟨fl, m1, g1⟩ := k1
    obtain ⟨fl2, m2, g2⟩ := k2
    cases he : e ρ S with
    | bad => rw [he] at m1; exact m1.elim
    | exc y S' => rw [he] at m1; exact m1.elim
    | ok v S' =>
      rw [he] at m1 m2
      simp only [R.st] at m1 m2 ⊢
      cases fl with
      | rt rv B =>
        obtain ⟨ρ', E', q'⟩ := m1
        cases fl2 with
        | nx B2 =>
          cases (show rv = .dat (.bool (F s)) from g1)
          cases q'
          exact hc _ _ _ _ (hk s) ((show Env B2 ρ S' from m2).weak g2)
        | _ => exact m2.elim
      | _ => exact m1.elim
end
end DL

namespace DL
open PySem L2
section
variable {β : Type} {Γ : Gx β} {A : AS} {t : Q β}
/-! ### statements -/
theorem cb_seq {b c : Blk} {κ : AS → Q β → Prop} (h : CB b A t (fun B t' => CB c B t' κ Γ) Γ) : CB (sSeq b c) A t κ Γ := fun ρ S k E hc => by
  have : (sSeq b c ρ S).fl k = (b ρ S).fl fun ρ' S' => (c ρ' S').fl k := by
    unfold sSeq
    cases b ρ S with
    | ok f S' => cases f <;> rfl
    | exc x S' => rfl
    | bad => rfl
  rw [this]
  exact h ρ S _ E fun B ρ' S' t' h1 E1 => h1 ρ' S' k E1 hc
theorem cb_nil {κ : AS → Q β → Prop} (h : κ A t) : CB sNil A t κ Γ := fun ρ S k E hc => hc _ _ _ _ h E
theorem cb_expr {e : Ex} {κ : AS → Q β → Prop} (h : CE e A t (fun _ B t' => κ B t') Γ) : CB (sExpr e) A t κ Γ := fun ρ S k E hc => by
  simp only [sExpr, st_fl]
  exact h ρ S _ E fun rv v B S' t' h1 E1 _ => hc _ _ _ _ h1 E1
theorem cb_set {i : Nat} {e : Ex} {κ : AS → Q β → Prop} (h : CE e A t (fun rv B t' => (∃ d, rv = .dat d ∧ κ (B.set i (some (.dat d))) t') ∨ ∃ o, rv = .new o ∧ κ (B.set i (some (.ob o))) t') Γ) : CB (sSet i e) A t κ Γ := fun ρ S k E hc => by
  simp only [sSet, st_fl]
  refine h ρ S _ E fun rv v B S' t' h1 E1 q1 => ?_
  rcases h1 with ⟨d, rfl, hk⟩ | ⟨o, rfl, hk⟩
  · cases q1
    exact hc _ _ _ _ hk (E1.setD i d)
  · obtain ⟨n, rfl, hS, hn⟩ := q1
    exact hc _ _ _ _ hk (E1.setN i n o hS hn)
/-- x = e, with a name for the value -/
theorem cb_setP {α : Type} {i : Nat} {e : Ex} {x : α} {t2 : α → Q β} {κ : AS → Q β → Prop} (f : α → D) (h : PE1 e A (f x)) (hk : ∀ y, κ (A.set i (some (.dat (f y)))) (t2 y)) : CB (sSet i e) A ((Q.ok x).bind t2) κ Γ :=
  cb_set (ce_pure h (.inl ⟨_, rfl, hk x⟩))
theorem cb_ret {e : Ex} {κ : AS → Q β → Prop} (h : CE e A t (fun rv B t' => ∃ a, t' = .ok a ∧ Γ.G (.rt rv B) a) Γ) : CB (sRet e) A t κ Γ := fun ρ S k E hc => by
  simp only [sRet, st_fl]
  refine h ρ S _ E fun rv v B S' t' h1 E1 q1 => ?_
  obtain ⟨a, rfl, hg⟩ := h1
  exact ⟨.rt rv B, ⟨ρ, E1, q1⟩, hg⟩
theorem cb_retN {a : β} {κ : AS → Q β → Prop} (h : Γ.G (.rt (.dat .none) A) a) : CB sRetN A (.ok a) κ Γ := fun ρ S k E hc => ⟨.rt (.dat .none) A, ⟨ρ, E, rfl⟩, h⟩
theorem cb_if {te : Te} {b c : Blk} {κ : AS → Q β → Prop} (h : CT te A t (fun z B t' => (z = true → CB b B t' κ Γ) ∧ (z = false → CB c B t' κ Γ)) Γ) : CB (sIf te b c) A t κ Γ := fun ρ S k E hc => by
  simp only [sIf, st_fl]
  refine h ρ S _ E fun z B S' t' h1 E1 => ?_
  cases z with
  | true => exact h1.1 rfl ρ S' k E1 hc
  | false => exact h1.2 rfl ρ S' k E1 hc
theorem cond_split {z : Bool} {b c : Blk} {κ : AS → Q β → Prop} {t1 t2 : Q β} (h1 : z = true → CB b A t1 κ Γ) (h2 : z = false → CB c A t2 κ Γ) :
    (z = true → CB b A (if z = true then t1 else t2) κ Γ) ∧ (z = false → CB c A (if z = true then t1 else t2) κ Γ) :=
  ⟨fun h => by rw [if_pos h]; exact h1 h, fun h => by rw [if_neg (by rw [h]; decide)]; exact h2 h⟩
theorem and_ct {z : Bool} {f : Te} {κ : Bool → AS → Q β → Prop} {t1 t2 : Q β} (h1 : z = true → CT f A t1 κ Γ) (h2 : z = false → κ false A t2) :
    (z = true → CT f A (if z = true then t1 else t2) κ Γ) ∧ (z = false → κ false A (if z = true then t1 else t2)) :=
  ⟨fun h => by rw [if_pos h]; exact h1 h, fun h => by rw [if_neg (by rw [h]; decide)]; exact h2 h⟩
theorem or_ct {z : Bool} {f : Te} {κ : Bool → AS → Q β → Prop} {t1 t2 : Q β} (h1 : z = true → κ true A t1) (h2 : z = false → CT f A t2 κ Γ) :
    (z = false → CT f A (if z = true then t1 else t2) κ Γ) ∧ (z = true → κ true A (if z = true then t1 else t2)) :=
  ⟨fun h => by rw [if_neg (by rw [h]; decide)]; exact h2 h, fun h => by rw [if_pos h]; exact h1 h⟩
theorem and_ce {z : Bool} {f : Ex} {κ : RV → AS → Q β → Prop} {v : RV} {t1 t2 : Q β} (h1 : z = true → CE f A t1 κ Γ) (h2 : z = false → κ v A t2) :
    (z = true → CE f A (if z = true then t1 else t2) κ Γ) ∧ (z = false → κ v A (if z = true then t1 else t2)) :=
  ⟨fun h => by rw [if_pos h]; exact h1 h, fun h => by rw [if_neg (by rw [h]; decide)]; exact h2 h⟩
theorem or_ce {z : Bool} {f : Ex} {κ : RV → AS → Q β → Prop} {v : RV} {t1 t2 : Q β} (h1 : z = true → κ v A t1) (h2 : z = false → CE f A t2 κ Γ) :
    (z = false → CE f A (if z = true then t1 else t2) κ Γ) ∧ (z = true → κ v A (if z = true then t1 else t2)) :=
  ⟨fun h => by rw [if_neg (by rw [h]; decide)]; exact h2 h, fun h => by rw [if_pos h]; exact h1 h⟩
theorem if_ce {z : Bool} {e f : Ex} {κ : RV → AS → Q β → Prop} {t1 t2 : Q β} (h1 : z = true → CE e A t1 κ Γ) (h2 : z = false → CE f A t2 κ Γ) :
    (z = true → CE e A (if z = true then t1 else t2) κ Γ) ∧ (z = false → CE f A (if z = true then t1 else t2) κ Γ) :=
  ⟨fun h => by rw [if_pos h]; exact h1 h, fun h => by rw [if_neg (by rw [h]; decide)]; exact h2 h⟩
/-- a chain's second part -/
theorem ch_ce {z : Bool} {f : Ex} {op' : D → D → Option D} {d2 : D} {κ : RV → AS → Q β → Prop} {v : RV} {t1 t2 : Q β} (h1 : z = true → CE f A t1 (fun r3 A3 t3 => ∃ d3, r3 = .dat d3 ∧ Fin (op' d2 d3) A3 t3 κ) Γ) (h2 : z = false → κ v A t2) :
    (z = true → CE f A (if z = true then t1 else t2) (fun r3 A3 t3 => ∃ d3, r3 = .dat d3 ∧ Fin (op' d2 d3) A3 t3 κ) Γ) ∧ (z = false → κ v A (if z = true then t1 else t2)) :=
  ⟨fun h => by rw [if_pos h]; exact h1 h, fun h => by rw [if_neg (by rw [h]; decide)]; exact h2 h⟩
theorem cb_raise {x : XV} {os : List O} {κ : AS → Q β → Prop} (h : Γ.E A os) : CB (sRaise x) A (.exc x os) κ Γ := fun ρ S k E hc => ⟨ρ, S, A, rfl, E, h⟩
theorem cb_bad {b : Blk} {κ : AS → Q β → Prop} : CB b A .bad κ Γ := fun ρ S k E hc => trivial
theorem cb_brk {a : β} {κ : AS → Q β → Prop} (h : Γ.G (.bk A) a) : CB sBrk A (.ok a) κ Γ := fun ρ S k E hc => ⟨.bk A, E, h⟩
theorem cb_ct {a : β} {κ : AS → Q β → Prop} (h : Γ.G (.ct A) a) : CB sCt A (.ok a) κ Γ := fun ρ S k E hc => ⟨.ct A, E, h⟩
theorem cb_frz {i : Nat} {o : O} {b : Blk} {κ : AS → Q β → Prop} (hi : A[i]? = some (some (.ob o))) (h : CB b (A.set i (some (.dat (objD o)))) t κ Γ) : CB (sFrz i b) A t κ Γ := fun ρ S k E hc => by
  obtain ⟨v, h1, n, rfl, h3⟩ := E.at' i _ hi
  simp only [sFrz, h1, h3]
  refine h _ _ k ?_ hc
  have E2 : Env (A.set i none) ρ (S.set n none) := (E.drop0 i).off fun j sv m o' hj hr hS => setget hS fun e => by
    subst e
    rcases getset hj with ⟨rfl, e⟩ | ⟨q, hj⟩
    · cases e
    · exact q (E.inj i j _ _ _ hi hj h1 hr)
  have := E2.setD i (objD o)
  rwa [List.set_set] at this
/-! ### targets -/
def CG {β : Type} (g : Tg) (d : D) (A : AS) (t : Q β) (κ : AS → Q β → Prop) (Γ : Gx β) : Prop :=
  ∀ ρ S ρ0 k, Env A ρ S → (∀ B ρ' S' t', κ B t' → Env B ρ' S' → Ref Γ (k ρ' S') t') → Ref Γ (((g (.d d) ρ S).noX).st ρ0 k) t
def CGs {β : Type} (g : Tgs) (ds : List D) (A : AS) (t : Q β) (κ : AS → Q β → Prop) (Γ : Gx β) : Prop :=
  ∀ ρ S ρ0 k, Env A ρ S → (∀ B ρ' S' t', κ B t' → Env B ρ' S' → Ref Γ (k ρ' S') t') → Ref Γ (((g ds ρ S).noX).st ρ0 k) t
theorem noX_bind {α γ : Type} (r : R α) (f : α → Sto → R γ) (ρ : Ev) (k : γ → Sto → R Flow) : ((r.bind f).noX).st ρ k = (r.noX).st ρ fun a S => ((f a S).noX).st ρ k := by cases r <;> rfl
theorem cg_nm {i : Nat} {d : D} {κ : AS → Q β → Prop} (h : κ (A.set i (some (.dat d))) t) : CG (gNm i) d A t κ Γ := fun ρ S ρ0 k E hc => hc _ _ _ _ h (E.setD i d)
theorem cg_tp {n : Nat} {gs : Tgs} {ds : List D} {κ : AS → Q β → Prop} (hl : ds.length = n) (h : CGs gs ds A t κ Γ) : CG (gTp n gs) (.tuple ds) A t κ Γ := fun ρ S ρ0 k E hc => by
  simp only [gTp, hl, if_true]; exact h ρ S ρ0 k E hc
theorem cgs_nil {κ : AS → Q β → Prop} (h : κ A t) : CGs gsNil [] A t κ Γ := fun ρ S ρ0 k E hc => hc _ _ _ _ h E
theorem cgs_cons {g : Tg} {gs : Tgs} {d : D} {ds : List D} {κ : AS → Q β → Prop} (h : CG g d A t (fun B t' => CGs gs ds B t' κ Γ) Γ) : CGs (gsCons g gs) (d :: ds) A t κ Γ := fun ρ S ρ0 k E hc => by
  show Ref Γ ((((g (.d d) ρ S).bind fun ρ1 S1 => gs ds ρ1 S1).noX).st ρ0 k) t
  rw [noX_bind]
  exact h ρ S ρ0 _ E fun B ρ' S' t' h1 E1 => h1 ρ' S' ρ0 k E1 hc
theorem cb_asg {e : Ex} {g : Tg} {κ : AS → Q β → Prop} (h : CE e A t (fun rv B t' => ∃ d, rv = .dat d ∧ CG g d B t' κ Γ) Γ) : CB (sAsg e g) A t κ Γ := fun ρ S k E hc => by
  simp only [sAsg, st_fl]
  refine h ρ S _ E fun rv v B S' t' h1 E1 q1 => ?_
  obtain ⟨d, rfl, hk⟩ := h1
  cases q1
  exact hk ρ S' ρ _ E1 fun C ρ' S' t' h1 E1 => hc _ _ _ _ h1 E1
theorem par_env {ρ : Ev} {S : Sto} : ∀ {B : AS} {ρ : Ev}, Env B ρ S → ∀ (is : List Nat) (ds : List D), ds.length = is.length →
    Env ((is.zip ds).foldl (fun r p => r.set p.1 (some (.dat p.2))) B) ((is.zip (ds.map Val.d)).foldl (fun r p => r.set p.1 (some p.2)) ρ) S
  | _, _, E, [], _, _ => E
  | _, _, E, i :: is, [], h => by simp at h
  | _, _, E, i :: is, d :: ds, h => par_env (ρ := ρ) (E.setD i d) is ds (by simpa using h)
/-- a, b = x, y -/
theorem cb_par {is : List Nat} {f : La} {κ : AS → Q β → Prop} (h : CA f A t (fun rvs B t' => ∃ ds, rvs = ds.map .dat ∧ ds.length = is.length ∧ κ ((is.zip ds).foldl (fun r p => r.set p.1 (some (.dat p.2))) B) t') Γ) : CB (sPar is f) A t κ Γ := fun ρ S k E hc => by
  simp only [sPar, st_fl]
  refine h ρ S _ E fun rs vs B S' t' h1 E1 q1 _ => ?_
  obtain ⟨ds, rfl, hl, hk⟩ := h1
  rw [q1.dats]
  simp only [List.length_map, hl, if_true]
  refine hc _ _ _ _ hk ?_
  exact par_env (ρ := ρ) E1 is ds hl
/-! ### lists and dicts that are changed -/
/-- the object that a slot has -/
inductive Ob (A : AS) (i : Nat) (o : O) (sv : SV) : Prop
  | m (h : A[i]? = some (some (.ob o))) (e : sv = .ob o) : Ob A i o sv
  | p (j : Nat) (h : A[i]? = some (some (.par j o))) (e : sv = .par j o) : Ob A i o sv
theorem Ob.get {i : Nat} {o : O} {sv : SV} (h : Ob A i o sv) {ρ : Ev} {S : Sto} (E : Env A ρ S) : ∃ n, A[i]? = some (some sv) ∧ ρ[i]? = some (some (.loc n)) ∧ S[n]? = some (some o) := by
  rcases h with ⟨h, rfl⟩ | ⟨j, h, rfl⟩
  · obtain ⟨v, h1, n, rfl, h3⟩ := E.at' i _ h; exact ⟨n, h, h1, h3⟩
  · obtain ⟨v, h1, rfl, h3⟩ := E.at' i _ h; exact ⟨j, h, h1, h3⟩
theorem eVar_st {ρ : Ev} {S : Sto} {i : Nat} {v : Val} {ρ0 : Ev} {k : Val → Sto → R Flow} (h : ρ[i]? = some (some v)) : ((eVar i ρ S).st ρ0 k) = k v S := by simp only [eVar, h, R.st]
/-- what is asked of an operation that changes the object of a slot -/
def roomT (n : Nat) : Option Unit := if n < sizeLine then some () else none
theorem cb_app {α : Type} {i : Nat} {e : Ex} {ds0 : List D} {sv0 : SV} {κ : AS → Q β → Prop} (f : α → D) (hi : Ob A i (.lst ds0) sv0)
    (h : CE e A t (fun rv B t' => ∃ (xs : List α) (x : α) (sv : SV) (k : Unit → Q β), rv = .dat (f x) ∧ Ob B i (.lst (xs.map f)) sv ∧ t' = (Q.of (roomT xs.length)).bind k ∧ κ (B.set i (some (sv.wo (.lst ((xs ++ [x]).map f))))) (k ())) Γ) :
    CB (sExpr (eApp (eVar i) e)) A t κ Γ := fun ρ S k E hc => by
  obtain ⟨n, g0, g1, g2⟩ := hi.get E
  have hl : isLst S (.loc n) = true := by simp only [isLst, g2]
  simp only [sExpr, st_fl, eApp, bind_st]
  rw [eVar_st g1, hl]
  show Ref Γ (((e ρ S).bind fun w S2 => appL (.loc n) w S2).st ρ _) t
  rw [bind_st]
  refine h ρ S _ E fun rv v B S' t' h1 E1 q1 => ?_
  obtain ⟨xs, x, sv, k2, rfl, ho, rfl, hk⟩ := h1
  cases q1
  obtain ⟨m, e0, e1, e2⟩ := ho.get E1
  rw [g1] at e1; cases e1
  unfold roomT
  by_cases hz : xs.length < sizeLine
  · rw [if_pos hz]
    simp only [appL, e2, List.length_map, hz, if_true, R.st, Q.of_some, Q.ok_bind]
    have := E1.setO (.lst ((xs ++ [x]).map f)) e0 g1
    refine hc _ _ _ _ hk ?_
    simpa using this
  · rw [if_neg hz]; trivial
def insT {α : Type} (xs : List α) (i : Int) (x : α) : Option (List α) := if xs.length < sizeLine ∧ 0 ≤ i ∧ i < 4611686018427387904 then some (xs.take i.toNat ++ [x] ++ xs.drop i.toNat) else none
theorem cb_ins {α : Type} {i : Nat} {ei e : Ex} {ds0 : List D} {sv0 : SV} {κ : AS → Q β → Prop} (f : α → D) (hi : Ob A i (.lst ds0) sv0)
    (h : CE ei A t (fun rj A1 t1 => CE e A1 t1 (fun rv B t' => ∃ (j : Int) (xs : List α) (x : α) (sv : SV) (k : List α → Q β), rj = .dat (.int j) ∧ rv = .dat (f x) ∧ Ob B i (.lst (xs.map f)) sv ∧ t' = (Q.of (insT xs j x)).bind k ∧ ∀ ys, κ (B.set i (some (sv.wo (.lst (ys.map f))))) (k ys)) Γ) Γ) :
    CB (sExpr (eIns (eVar i) ei e)) A t κ Γ := fun ρ S k E hc => by
  obtain ⟨n, g0, g1, g2⟩ := hi.get E
  have hl : isLst S (.loc n) = true := by simp only [isLst, g2]
  simp only [sExpr, st_fl, eIns, bind_st]
  rw [eVar_st g1, hl]
  show Ref Γ (((ei ρ S).bind fun i S2 => (e ρ S2).bind fun w S3 => insL (.loc n) i w S3).st ρ _) t
  rw [bind_st]
  refine h ρ S _ E fun rj v1 A1 S1 t1 h1 E1 q1 => ?_
  rw [bind_st]
  refine h1 ρ S1 _ E1 fun rv v B S' t' h2 E2 q2 => ?_
  obtain ⟨j, xs, x, sv, k2, rfl, rfl, ho, rfl, hk⟩ := h2
  cases q1; cases q2
  obtain ⟨m, e0, e1, e2⟩ := ho.get E2
  rw [g1] at e1; cases e1
  unfold insT
  by_cases hz : xs.length < sizeLine ∧ 0 ≤ j ∧ j < 4611686018427387904
  · rw [if_pos hz]
    have hz' : (xs.map f).length < sizeLine ∧ 0 ≤ j ∧ j < 4611686018427387904 := by simpa using hz
    simp only [insL, e2]
    rw [if_pos hz']
    refine hc _ _ _ _ (hk _) ?_
    have := E2.setO (.lst ((xs.take j.toNat ++ [x] ++ xs.drop j.toNat).map f)) e0 g1
    simpa [List.map_take, List.map_drop] using this
  · rw [if_neg hz]; trivial
def setT {α : Type} (xs : List α) (i : Int) (x : α) : Option (List α) := (ixN xs.length i).map fun j => xs.set j x
/-- xs[i] = x -/
theorem cb_put {α : Type} {i : Nat} {ei e : Ex} {κ : AS → Q β → Prop} (f : α → D)
    (h : CE e A t (fun rv A1 t1 => IsOb A1 i ∧ CE ei A1 t1 (fun rj B t' => ∃ (j : Int) (xs : List α) (x : α) (sv : SV) (k : List α → Q β), rj = .dat (.int j) ∧ rv = .dat (f x) ∧ Ob B i (.lst (xs.map f)) sv ∧ t' = (Q.of (setT xs j x)).bind k ∧ ∀ ys, κ (B.set i (some (sv.wo (.lst (ys.map f))))) (k ys)) Γ) Γ) :
    CB (sPut setL (eVar i) ei e) A t κ Γ := fun ρ S k E hc => by
  simp only [sPut, st_fl]
  refine h ρ S _ E fun rv v A1 S1 t1 h1 E1 q1 => ?_
  obtain ⟨n, sv0, o0, g0, g1, g2, g3⟩ := h1.1.at E1
  rw [eVar_st g1]
  refine h1.2 ρ S1 _ E1 fun rj v2 B S' t' h2 E2 q2 => ?_
  obtain ⟨j, xs, x, sv, k2, rfl, rfl, ho, rfl, hk⟩ := h2
  cases q1; cases q2
  obtain ⟨m, e0, e1, e2⟩ := ho.get E2
  rw [g1] at e1; cases e1
  simp only [setL, e2, setT, List.length_map]
  cases ixN xs.length j with
  | none => trivial
  | some jj =>
    simp only [R.st, R.fl, Option.map, Q.of_some, Q.ok_bind]
    refine hc _ _ _ _ (hk _) ?_
    rw [show (xs.map f).set jj (f x) = (xs.set jj x).map f from List.map_set.symm]
    exact E2.setO _ e0 g1
theorem cg_put {α : Type} {i : Nat} {ei : Ex} {j : Int} {xs : List α} {x : α} {sv : SV} {k : List α → Q β} {κ : AS → Q β → Prop} (f : α → D) (ho : Ob A i (.lst (xs.map f)) sv) (hj : PE1 ei A (.int j)) (hk : ∀ ys, κ (A.set i (some (sv.wo (.lst (ys.map f))))) (k ys)) :
    CG (gSb setL (eVar i) ei) (f x) A ((Q.of (setT xs j x)).bind k) κ Γ := fun ρ S ρ0 k' E hc => by
  obtain ⟨m, e0, e1, e2⟩ := ho.get E
  simp only [gSb, eVar, e1, R.noX, R.bind, hj ρ S E, setL, e2, setT, List.length_map]
  cases ixN xs.length j with
  | none => trivial
  | some jj =>
    simp only [R.st, R.bind, R.noX, Option.map, Q.of_some, Q.ok_bind]
    refine hc _ _ _ _ (hk _) ?_
    rw [show (xs.map f).set jj (f x) = (xs.set jj x).map f from List.map_set.symm]
    exact E.setO _ e0 e1
/-! dicts with whole numbers for keys -/
def dicE {α : Type} (f : α → D) (m : List (Int × α)) : List (Key × D) := m.map fun p => (Sum.inl p.1, f p.2)
def putT {α : Type} (m : List (Int × α)) (k : Int) (v : α) : List (Int × α) := if m.any (fun p => decide (p.1 = k)) then m.map (fun p => if p.1 = k then (p.1, v) else p) else m ++ [(k, v)]
theorem putKD_E {α : Type} (f : α → D) (m : List (Int × α)) (k : Int) (v : α) : putKD (dicE f m) (.inl k) (f v) = dicE f (putT m k v) := by
  have e : (dicE f m).any (fun kv => decide (kv.1 = (Sum.inl k : Key))) = m.any (fun p => decide (p.1 = k)) := by
    simp only [dicE, List.any_map]
    congr 1; funext p
    simp
  unfold putKD putT
  rw [e]
  split
  · simp only [dicE, List.map_map]
    apply List.map_congr_left
    intro p _
    simp only [Function.comp]
    by_cases h : p.1 = k
    · simp [h]
    · simp [h]
  · simp [dicE]
theorem cb_putD {α : Type} {i : Nat} {ei e : Ex} {κ : AS → Q β → Prop} (f : α → D)
    (h : CE e A t (fun rv A1 t1 => IsOb A1 i ∧ CE ei A1 t1 (fun rj B t' => ∃ (j : Int) (m : List (Int × α)) (x : α) (sv : SV) (k : Unit → Q β), rj = .dat (.int j) ∧ rv = .dat (f x) ∧ Ob B i (.dic (dicE f m)) sv ∧ t' = (Q.of (roomT m.length)).bind k ∧ κ (B.set i (some (sv.wo (.dic (dicE f (putT m j x)))))) (k ())) Γ) Γ) :
    CB (sPut setD (eVar i) ei e) A t κ Γ := fun ρ S k E hc => by
  simp only [sPut, st_fl]
  refine h ρ S _ E fun rv v A1 S1 t1 h1 E1 q1 => ?_
  obtain ⟨n, sv0, o0, g0, g1, g2, g3⟩ := h1.1.at E1
  rw [eVar_st g1]
  refine h1.2 ρ S1 _ E1 fun rj v2 B S' t' h2 E2 q2 => ?_
  obtain ⟨j, m, x, sv, k2, rfl, rfl, ho, rfl, hk⟩ := h2
  cases q1; cases q2
  obtain ⟨m', e0, e1, e2⟩ := ho.get E2
  rw [g1] at e1; cases e1
  have hl : (dicE f m).length = m.length := by simp [dicE]
  unfold roomT
  by_cases hz : m.length < sizeLine
  · rw [if_pos hz]
    simp only [setD, e2, keyOf, hl, hz, if_true, R.st, R.fl, Q.of_some, Q.ok_bind]
    refine hc _ _ _ _ hk ?_
    rw [putKD_E]
    exact E2.setO _ e0 g1
  · rw [if_neg hz]; trivial
theorem cb_aug {i : Nat} {p : Int → Int → Int} {k : Int} {f : Ex} {κ : AS → Q β → Prop} (hi : A[i]? = some (some (.dat (.int k)))) (h : CE f A t (fun rv B t' => ∃ j, rv = .dat (.int j) ∧ κ (B.set i (some (.dat (.int (p k j))))) t') Γ) : CB (sAug i p f) A t κ Γ := fun ρ S k' E hc => by
  obtain ⟨v, h1, h2⟩ := E.at' i _ hi
  cases h2
  simp only [sAug, h1, st_fl]
  refine h ρ S _ E fun rv v B S' t' h1 E1 q1 => ?_
  obtain ⟨j, rfl, hk⟩ := h1
  cases q1
  exact hc _ _ _ _ hk (E1.setD i _)
/-- behind a join of ways that all go on -/
def Gb {σ : Type} (Γ : Gx β) (AL : σ → AS) : Gx σ where
  G := fun fl s => match fl with
    | .nx B => Weak B (AL s)
    | .ct B => Weak B (AL s)
    | _ => False
  E := Γ.E
theorem fl_id (r : R Flow) : r.fl (fun ρ S => .ok (.nx ρ) S) = r := by
  cases r with
  | ok f S => cases f <;> rfl
  | exc x S => rfl
  | bad => rfl
def Gj1 {σ : Type} (Γ : Gx β) (AL : σ → AS) : Gx σ where
  G := fun fl s => match fl with
    | .nx B => Weak B (AL s)
    | _ => False
  E := Γ.E
theorem cb_join {σ : Type} {b : Blk} {q : Q σ} {t2 : σ → Q β} {κ : AS → Q β → Prop} (AL : σ → AS)
    (h : CB b A q (fun B t => ∃ s, t = .ok s ∧ Weak B (AL s)) (Gj1 Γ AL)) (hk : ∀ s, κ (AL s) (t2 s)) : CB b A (q.bind t2) κ Γ := fun ρ S k E hc => by
  have k1 := h ρ S (fun ρ' S' => .ok (.nx ρ') S') E fun B ρ' S' t' ⟨s, h1, h2⟩ E1 => by
    subst h1; exact ⟨.nx B, E1, h2⟩
  rw [fl_id] at k1
  cases q with
  | bad => trivial
  | exc x os =>
    obtain ⟨ρ1, S1, B, e1, e2, e3⟩ := k1
    rw [e1]
    exact ⟨_, _, B, rfl, e2, e3⟩
  | ok s =>
    obtain ⟨fl, m1, g1⟩ := k1
    cases fl with
    | nx B =>
      cases he : b ρ S with
      | ok f S' =>
        rw [he] at m1
        cases f with
        | nx ρ' => exact hc _ _ _ _ (hk s) ((show Env B ρ' S' from m1).weak g1)
        | _ => exact m1.elim
      | exc x S' => rw [he] at m1; exact m1.elim
      | bad => rw [he] at m1; exact m1.elim
    | _ => exact g1.elim
/-! ### ways that go on, break or give back -/
inductive LF (σ ρ : Type) where
  | nx (s : σ) | bk (s : σ) | rt (r : ρ)
def Q.lf {σ ρ β : Type} (q : Q (LF σ ρ)) (k : σ → Q β) (kr : ρ → Q β) : Q β := q.bind fun l => match l with
  | .nx s => k s
  | .bk s => k s
  | .rt r => kr r
@[simp] theorem Q.lf_nx {σ ρ β : Type} (s : σ) (k : σ → Q β) (kr : ρ → Q β) : (Q.ok (LF.nx s)).lf k kr = k s := by simp only [Q.lf, Q.ok_bind, Q.bad_bind]
@[simp] theorem Q.lf_bk {σ ρ β : Type} (s : σ) (k : σ → Q β) (kr : ρ → Q β) : (Q.ok (LF.bk s)).lf k kr = k s := by simp only [Q.lf, Q.ok_bind, Q.bad_bind]
@[simp] theorem Q.lf_rt {σ ρ β : Type} (r : ρ) (k : σ → Q β) (kr : ρ → Q β) : (Q.ok (LF.rt r)).lf k kr = kr r := by simp only [Q.lf, Q.ok_bind, Q.bad_bind]
@[simp] theorem Q.lf_bad {σ ρ β : Type} (k : σ → Q β) (kr : ρ → Q β) : (Q.bad : Q (LF σ ρ)).lf k kr = .bad := by simp only [Q.lf, Q.ok_bind, Q.bad_bind]
def Glf {σ ρ : Type} (Γ : Gx β) (AL : σ → AS) (GR : RV → AS → ρ → Prop) : Gx (LF σ ρ) where
  G := fun fl l => match fl, l with
    | .nx B, .nx s => Weak B (AL s)
    | .ct B, .nx s => Weak B (AL s)
    | .bk B, .bk s => Weak B (AL s)
    | .rt v B, .rt r => GR v B r
    | _, _ => False
  E := Γ.E
/-- a join of ways of which some give back -/
theorem cb_joinR {σ ρr : Type} {b : Blk} {q : Q (LF σ ρr)} {t2 : σ → Q β} {t3 : ρr → Q β} {κ : AS → Q β → Prop} (AL : σ → AS) (GR : RV → AS → ρr → Prop)
    (h : CB b A q (fun B t => ∃ s, t = .ok (.nx s) ∧ Weak B (AL s)) ⟨fun fl l => match fl, l with | .nx B, .nx s => Weak B (AL s) | .rt v B, .rt r => GR v B r | _, _ => False, Γ.E⟩) (hk : ∀ s, κ (AL s) (t2 s))
    (hr : ∀ v B r, GR v B r → ∃ a, t3 r = .ok a ∧ Γ.G (.rt v B) a) : CB b A (q.lf t2 t3) κ Γ := fun ρ S k E hc => by
  have k1 := h ρ S (fun ρ' S' => .ok (.nx ρ') S') E fun B ρ' S' t' ⟨s, h1, h2⟩ E1 => by
    subst h1; exact ⟨.nx B, E1, h2⟩
  rw [fl_id] at k1
  cases q with
  | bad => trivial
  | exc x os =>
    obtain ⟨ρ1, S1, B, e1, e2, e3⟩ := k1
    rw [e1]
    exact ⟨_, _, B, rfl, e2, e3⟩
  | ok l =>
    obtain ⟨fl, m1, g1⟩ := k1
    cases fl with
    | nx B =>
      cases l with
      | nx s =>
        cases he : b ρ S with
        | ok f S' =>
          rw [he] at m1
          cases f with
          | nx ρ' => exact hc _ _ _ _ (hk s) ((show Env B ρ' S' from m1).weak g1)
          | _ => exact m1.elim
        | exc x S' => rw [he] at m1; exact m1.elim
        | bad => rw [he] at m1; exact m1.elim
      | _ => exact g1.elim
    | rt v B =>
      cases l with
      | rt r =>
        cases he : b ρ S with
        | ok f S' =>
          rw [he] at m1
          cases f with
          | rt ρ' =>
            obtain ⟨a, e, g⟩ := hr _ _ _ g1
            rw [Q.lf_rt, e]
            exact ⟨.rt v B, m1, g⟩
          | _ => exact m1.elim
        | exc x S' => rw [he] at m1; exact m1.elim
        | bad => rw [he] at m1; exact m1.elim
      | _ => exact g1.elim
    | bk B => cases l <;> exact g1.elim
    | ct B => cases l <;> exact g1.elim
end
end DL

namespace DL
open PySem L2
/-! ### what is gone through -/
def irange (i j : Int) : List Int := (List.range (j - i).toNat).map fun k => i + (k : Nat)
@[irreducible] def rgT (i j : Int) : Option (List Int) := if -4611686018427387904 ≤ i ∧ i < 4611686018427387904 ∧ -4611686018427387904 ≤ j ∧ j < 4611686018427387904 ∧ j - i ≤ 1000000 then some (irange i j) else none
theorem rgI_T (i j : Int) : rgI i j = (rgT i j).map fun xs => xs.map PyData.int := by
  unfold rgI rgT
  split
  · simp [rangeD, irange]
  · rfl
def enumT {α : Type} : Int → List α → List (Int × α)
  | _, [] => []
  | k, x :: r => (k, x) :: enumT (k + 1) r
theorem enumD_T {α : Type} (f : α → D) : ∀ (k : Nat) (xs : List α), enumD k (xs.map f) = (enumT (k : Int) xs).map fun p => .tuple [.int p.1, f p.2]
  | _, [] => rfl
  | k, x :: r => by simp only [List.map_cons, enumD, enumT, enumD_T f (k + 1) r]; rfl
theorem enum_T {α : Type} (f : α → D) (xs : List α) : enumD 0 (xs.map f) = (enumT 0 xs).map fun p => .tuple [.int p.1, f p.2] := enumD_T f 0 xs
theorem zip_T {α γ : Type} (f : α → D) (g : γ → D) : ∀ (xs : List α) (ys : List γ), zipD (xs.map f) (ys.map g) = (xs.zip ys).map fun p => .tuple [f p.1, g p.2]
  | [], _ => rfl
  | _ :: _, [] => rfl
  | x :: xs, y :: ys => by
    have := zip_T f g xs ys
    simp only [zipD] at this
    simp only [zipD, List.map_cons, List.zipWith_cons_cons, List.zip_cons_cons, this]
section
variable {β : Type} {Γ : Gx β} {A : AS} {t : Q β}
theorem ci_seq {e : Ex} {κ : List D → AS → Q β → Prop} (h : CE e A t (fun rv B t' => ∃ ds, (rv = .dat (.list ds) ∨ rv = .dat (.tuple ds) ∨ rv = .scr ds) ∧ κ ds B t') Γ) : CI (itSeq e) A t κ Γ := fun ρ S k E hc => by
  simp only [itSeq, bind_st]
  refine h ρ S _ E fun rv v B S' t' h1 E1 q1 => ?_
  obtain ⟨ds, rfl | rfl | rfl, hk⟩ := h1 <;> cases q1 <;> exact hc _ _ _ _ hk E1
theorem VRs.one {ρ : Ev} {S : Sto} {r : RV} {vs : List Val} (h : VRs A ρ S [r] vs) : ∃ v, vs = [v] ∧ VR A ρ S r v := by
  cases h with
  | cons h t => cases t; exact ⟨_, rfl, h⟩
theorem VRs.two {ρ : Ev} {S : Sto} {r r' : RV} {vs : List Val} (h : VRs A ρ S [r, r'] vs) : ∃ v v', vs = [v, v'] ∧ VR A ρ S r v ∧ VR A ρ S r' v' := by
  cases h with
  | cons h t => cases t with
    | cons h' t => cases t; exact ⟨_, _, rfl, h, h'⟩
theorem ref_ofL {ρ : Ev} {S : Sto} {i j : Int} {κ : List D → AS → Q β → Prop} {k' : List D → Sto → R Flow} {k : List Int → Q β} (E : Env A ρ S)
    (hc : ∀ ds B S' t', κ ds B t' → Env B ρ S' → Ref Γ (k' ds S') t') (hk : ∀ xs, κ (xs.map .int) A (k xs)) : Ref Γ ((ofL (rgI i j) S).st ρ k') ((Q.of (rgT i j)).bind k) := by
  rw [rgI_T]
  cases rgT i j with
  | none => trivial
  | some xs => exact hc _ _ _ _ (hk xs) E
theorem ci_r1 {f : La} {κ : List D → AS → Q β → Prop} (h : CA f A t (fun rvs B t' => ∃ j k, rvs = [.dat (.int j)] ∧ t' = (Q.of (rgT 0 j)).bind k ∧ ∀ xs, κ (xs.map .int) B (k xs)) Γ) : CI (itR1 f) A t κ Γ := fun ρ S k E hc => by
  simp only [itR1, bind_st]
  refine h ρ S _ E fun rvs vs B S' t' h1 E1 q1 _ => ?_
  obtain ⟨j, k2, rfl, rfl, hk⟩ := h1
  obtain ⟨v, rfl, q⟩ := q1.one
  cases q
  exact ref_ofL E1 hc hk
theorem ci_r2 {f : La} {κ : List D → AS → Q β → Prop} (h : CA f A t (fun rvs B t' => ∃ i j k, rvs = [.dat (.int i), .dat (.int j)] ∧ t' = (Q.of (rgT i j)).bind k ∧ ∀ xs, κ (xs.map .int) B (k xs)) Γ) : CI (itR2 f) A t κ Γ := fun ρ S k E hc => by
  simp only [itR2, bind_st]
  refine h ρ S _ E fun rvs vs B S' t' h1 E1 q1 _ => ?_
  obtain ⟨i, j, k2, rfl, rfl, hk⟩ := h1
  obtain ⟨v, w, rfl, q, q'⟩ := q1.two
  cases q; cases q'
  exact ref_ofL E1 hc hk
theorem ci_enum {f : La} {κ : List D → AS → Q β → Prop} (h : CA f A t (fun rvs B t' => ∃ ds, (rvs = [.dat (.list ds)] ∨ rvs = [.dat (.tuple ds)]) ∧ κ (enumD 0 ds) B t') Γ) : CI (itEnum f) A t κ Γ := fun ρ S k E hc => by
  simp only [itEnum, bind_st]
  refine h ρ S _ E fun rvs vs B S' t' h1 E1 q1 _ => ?_
  obtain ⟨ds, rfl | rfl, hk⟩ := h1
  · obtain ⟨v, rfl, q⟩ := q1.one; cases q; exact hc _ _ _ _ hk E1
  · obtain ⟨v, rfl, q⟩ := q1.one; cases q; exact hc _ _ _ _ hk E1
theorem ci_zip {f : La} {κ : List D → AS → Q β → Prop} (h : CA f A t (fun rvs B t' => ∃ ds es, (rvs = [.dat (.list ds), .dat (.list es)] ∨ rvs = [.dat (.tuple ds), .dat (.tuple es)] ∨ rvs = [.dat (.tuple ds), .dat (.list es)]) ∧ κ (zipD ds es) B t') Γ) : CI (itZipX f) A t κ Γ := fun ρ S k E hc => by
  simp only [itZipX, bind_st]
  refine h ρ S _ E fun rvs vs B S' t' h1 E1 q1 _ => ?_
  obtain ⟨ds, es, rfl | rfl | rfl, hk⟩ := h1 <;> (obtain ⟨v, w, rfl, q, q'⟩ := q1.two; cases q; cases q'; exact hc _ _ _ _ hk E1)
theorem ci_keys {i : Nat} {kds : List (D × D)} {κ : List D → AS → Q β → Prop} (hi : A[i]? = some (some (.dat (.dict kds)))) (hk : κ (kds.map (·.1)) A t) : CI (itKeys i) A t κ Γ := fun ρ S k E hc => by
  obtain ⟨v, h1, h2⟩ := E.at' i _ hi
  cases h2
  simp only [itKeys, h1, R.st]
  exact hc _ _ _ _ hk E
/-! ### loops -/
def foldQ {α σ : Type} : List α → σ → (α → σ → Q σ) → Q σ
  | [], s, _ => .ok s
  | x :: r, s, f => (f x s).bind fun s' => foldQ r s' f
def forQ {α σ ρ : Type} : List α → σ → (α → σ → Q (LF σ ρ)) → Q (LF σ ρ)
  | [], s, _ => .ok (.nx s)
  | x :: r, s, f => (f x s).bind fun l => match l with
    | .nx s' => forQ r s' f
    | .bk s' => .ok (.bk s')
    | .rt v => .ok (.rt v)
def whileS {σ : Type} (c : σ → Q Bool) (f : σ → Q σ) : Nat → σ → Q σ
  | 0, _ => .bad
  | n + 1, s => (c s).bind fun b => if b = true then (f s).bind fun s' => whileS c f n s' else .ok s
def whileQ {σ ρ : Type} (c : σ → Q Bool) (f : σ → Q (LF σ ρ)) : Nat → σ → Q (LF σ ρ)
  | 0, _ => .bad
  | n + 1, s => (c s).bind fun b => if b = true then (f s).bind fun l => match l with
      | .nx s' => whileQ c f n s'
      | .bk s' => .ok (.bk s')
      | .rt v => .ok (.rt v)
    else .ok (.nx s)
theorem cb_for {fi : Iy} {tg : Tg} {g : Blk} {κ : AS → Q β → Prop} (h : CI fi A t (fun ds B t' => CB (forL tg g ds) B t' κ Γ) Γ) : CB (sFor fi tg g) A t κ Γ := fun ρ S k E hc => by
  simp only [sFor, st_fl]
  exact h ρ S _ E fun ds B S' t' h1 E1 => h1 ρ S' k E1 hc
def lstep (r : R Flow) (k : Ev → Sto → R Flow) : R Flow := match r with
  | .ok (.nx ρ') S' => k ρ' S'
  | .ok (.ct ρ') S' => k ρ' S'
  | .ok (.bk ρ') S' => .ok (.nx ρ') S'
  | r => r
theorem forL_cons {tg : Tg} {g : Blk} {d : D} {ds : List D} {ρ : Ev} {S : Sto} : forL tg g (d :: ds) ρ S = lstep (((tg (.d d) ρ S).noX).st ρ g) (forL tg g ds) := by
  simp only [forL]
  cases (tg (.d d) ρ S).noX with
  | ok ρ1 S1 =>
    simp only [R.st]
    cases g ρ1 S1 with
    | ok f S' => cases f <;> rfl
    | exc x S' => rfl
    | bad => rfl
  | exc x S' => rfl
  | bad => rfl
theorem cl_fold {α σ : Type} {tg : Tg} {g : Blk} {body : α → σ → Q σ} {t2 : σ → Q β} {κ : AS → Q β → Prop} (f : α → D) (AL : σ → AS)
    (hb : ∀ x s, CG tg (f x) (AL s) (body x s) (fun B t' => CB g B t' (fun C t'' => ∃ s', t'' = .ok s' ∧ Weak C (AL s')) (Gb Γ AL)) (Gb Γ AL))
    (hk : ∀ s, κ (AL s) (t2 s)) : ∀ {ds : List D} {xs : List α} {s0 : σ} {A : AS}, ds = xs.map f → Weak A (AL s0) → CB (forL tg g ds) A ((foldQ xs s0 body).bind t2) κ Γ
  | _, [], s0, A, rfl, w => fun ρ S k E hc => hc _ _ _ _ (hk s0) (E.weak w)
  | _, x :: xs, s0, A, rfl, w => fun ρ S k E hc => by
    have k1 := hb x s0 ρ S ρ (fun ρ' S' => g ρ' S') (E.weak w) fun B ρ' S' t' h1 E1 => by
      have := h1 ρ' S' (fun ρ S => .ok (.nx ρ) S) E1 fun B ρ' S' t' ⟨s', e1, e2⟩ E1 => by
        subst e1; exact ⟨.nx B, E1, e2⟩
      rwa [fl_id] at this
    rw [List.map_cons, forL_cons, foldQ]
    have k1' : Ref (Gb Γ AL) (((tg (.d (f x)) ρ S).noX).st ρ g) (body x s0) := k1
    clear k1
    revert k1'
    generalize ((tg (.d (f x)) ρ S).noX).st ρ g = r
    generalize body x s0 = q
    intro k1
    cases q with
    | bad => trivial
    | exc x os =>
      obtain ⟨ρ1, S1, B, rfl, e2, e3⟩ := k1
      exact ⟨_, _, B, rfl, e2, e3⟩
    | ok s =>
      obtain ⟨fl, m1, g1⟩ := k1
      rw [Q.ok_bind]
      have ih := fun (B : AS) (hw : Weak B (AL s)) => cl_fold f AL hb hk (ds := xs.map f) (xs := xs) (s0 := s) (A := B) rfl hw
      cases fl with
      | nx B =>
        cases r with
        | ok fl S' =>
          cases fl with
          | nx ρ' => exact ih B g1 ρ' S' k m1 hc
          | _ => exact m1.elim
        | exc x S' => exact m1.elim
        | bad => exact m1.elim
      | ct B =>
        cases r with
        | ok fl S' =>
          cases fl with
          | ct ρ' => exact ih B g1 ρ' S' k m1 hc
          | _ => exact m1.elim
        | exc x S' => exact m1.elim
        | bad => exact m1.elim
      | _ => exact g1.elim
theorem cl_for {α σ ρr : Type} {tg : Tg} {g : Blk} {body : α → σ → Q (LF σ ρr)} {t2 : σ → Q β} {t3 : ρr → Q β} {κ : AS → Q β → Prop} (f : α → D) (AL : σ → AS) (GR : RV → AS → ρr → Prop)
    (hb : ∀ x s, CG tg (f x) (AL s) (body x s) (fun B t' => CB g B t' (fun C t'' => ∃ s', t'' = .ok (.nx s') ∧ Weak C (AL s')) (Glf Γ AL GR)) (Glf Γ AL GR))
    (hk : ∀ s, κ (AL s) (t2 s)) (hr : ∀ v B r, GR v B r → ∃ a, t3 r = .ok a ∧ Γ.G (.rt v B) a) : ∀ {ds : List D} {xs : List α} {s0 : σ} {A : AS}, ds = xs.map f → Weak A (AL s0) → CB (forL tg g ds) A ((forQ xs s0 body).lf t2 t3) κ Γ
  | _, [], s0, A, rfl, w => fun ρ S k E hc => hc _ _ _ _ (hk s0) (E.weak w)
  | _, x :: xs, s0, A, rfl, w => fun ρ S k E hc => by
    have k1 := hb x s0 ρ S ρ (fun ρ' S' => g ρ' S') (E.weak w) fun B ρ' S' t' h1 E1 => by
      have := h1 ρ' S' (fun ρ S => .ok (.nx ρ) S) E1 fun B ρ' S' t' ⟨s', e1, e2⟩ E1 => by
        subst e1; exact ⟨.nx B, E1, e2⟩
      rwa [fl_id] at this
    rw [List.map_cons, forL_cons, forQ]
    have k1' : Ref (Glf Γ AL GR) (((tg (.d (f x)) ρ S).noX).st ρ g) (body x s0) := k1
    clear k1
    revert k1'
    generalize ((tg (.d (f x)) ρ S).noX).st ρ g = r
    generalize body x s0 = q
    intro k1
    cases q with
    | bad => trivial
    | exc x os =>
      obtain ⟨ρ1, S1, B, rfl, e2, e3⟩ := k1
      exact ⟨_, _, B, rfl, e2, e3⟩
    | ok l =>
      obtain ⟨fl, m1, g1⟩ := k1
      rw [Q.ok_bind]
      have ih := fun (s : σ) (B : AS) (hw : Weak B (AL s)) => cl_for f AL GR hb hk hr (ds := xs.map f) (xs := xs) (s0 := s) (A := B) rfl hw
      cases r with
      | exc x S' => exact m1.elim
      | bad => exact m1.elim
      | ok f' S' =>
        cases f' with
        | nx ρ' =>
          cases fl with
          | nx B =>
            cases l with
            | nx s => exact ih s B g1 ρ' S' k m1 hc
            | _ => exact g1.elim
          | _ => exact m1.elim
        | ct ρ' =>
          cases fl with
          | ct B =>
            cases l with
            | nx s => exact ih s B g1 ρ' S' k m1 hc
            | _ => exact g1.elim
          | _ => exact m1.elim
        | bk ρ' =>
          cases fl with
          | bk B =>
            cases l with
            | bk s => exact hc _ _ _ _ (hk s) ((show Env B ρ' S' from m1).weak g1)
            | _ => exact g1.elim
          | _ => exact m1.elim
        | rt v =>
          cases fl with
          | rt v' B =>
            cases l with
            | rt r =>
              obtain ⟨a, e, g⟩ := hr _ _ _ g1
              show Ref Γ _ (t3 r)
              rw [e]
              exact ⟨.rt v' B, m1, g⟩
            | _ => exact g1.elim
          | _ => exact m1.elim
        | ex x ρ' => cases fl <;> exact m1.elim
theorem whileN_succ {te : Te} {g : Blk} {n : Nat} {ρ : Ev} {S : Sto} : whileN te g (n + 1) ρ S = (te ρ S).st ρ fun b S1 => match b with
    | false => .ok (.nx ρ) S1
    | true => lstep (g ρ S1) (whileN te g n) := by
  simp only [whileN]
  congr 1
theorem cl_while {σ : Type} {te : Te} {g : Blk} {c : σ → Q Bool} {body : σ → Q σ} {t2 : σ → Q β} {κ : AS → Q β → Prop} (AL : σ → AS)
    (hc' : ∀ s, CT te (AL s) (c s) (fun b B t' => ∃ b', t' = .ok b' ∧ b = b' ∧ Weak B (AL s)) (Gj Γ (fun b => .dat (.bool b)) (fun _ => AL s)))
    (hb : ∀ s, CB g (AL s) (body s) (fun C t'' => ∃ s', t'' = .ok s' ∧ Weak C (AL s')) (Gb Γ AL))
    (hk : ∀ s, κ (AL s) (t2 s)) : ∀ {n : Nat} {s0 : σ} {A : AS}, Weak A (AL s0) → CB (whileN te g n) A ((whileS c body n s0).bind t2) κ Γ
  | 0, s0, A, w => fun ρ S k E hc => trivial
  | n + 1, s0, A, w => fun ρ S k E hc => by
    rw [whileN_succ, whileS, st_fl, Q.bind_bind]
    refine ct_join (Γ := Γ) (σ := Bool) (κ := fun b B t' => B = AL s0 ∧ t' = (if b = true then (body s0).bind fun s' => whileS c body n s' else .ok s0).bind t2) (fun b => b) (fun _ => AL s0) (hc' s0) (fun b => ⟨rfl, rfl⟩) ρ S _ (E.weak w) ?_
    intro b B S' t' h1 E1
    obtain ⟨rfl, rfl⟩ := h1
    cases b with
    | false => exact hc _ _ _ _ (hk s0) E1
    | true =>
      have k1 := hb s0 ρ S' (fun ρ S => .ok (.nx ρ) S) E1 fun B ρ' S' t' ⟨s', e1, e2⟩ E1 => by
        subst e1; exact ⟨.nx B, E1, e2⟩
      rw [fl_id] at k1
      show Ref Γ ((lstep (g ρ S') (whileN te g n)).fl k) (((body s0).bind fun s' => whileS c body n s').bind t2)
      revert k1
      generalize g ρ S' = r
      generalize body s0 = q
      intro k1
      cases q with
      | bad => trivial
      | exc x os =>
        obtain ⟨ρ1, S1, B, rfl, e2, e3⟩ := k1
        exact ⟨_, _, B, rfl, e2, e3⟩
      | ok s =>
        obtain ⟨fl, m1, g1⟩ := k1
        rw [Q.ok_bind]
        have ih := fun (B : AS) (hw : Weak B (AL s)) => cl_while AL hc' hb hk (n := n) (s0 := s) (A := B) hw
        cases fl with
        | nx B =>
          cases r with
          | ok fl S' =>
            cases fl with
            | nx ρ' => exact ih B g1 ρ' S' k m1 hc
            | _ => exact m1.elim
          | exc x S' => exact m1.elim
          | bad => exact m1.elim
        | ct B =>
          cases r with
          | ok fl S' =>
            cases fl with
            | ct ρ' => exact ih B g1 ρ' S' k m1 hc
            | _ => exact m1.elim
          | exc x S' => exact m1.elim
          | bad => exact m1.elim
        | _ => exact g1.elim
theorem cl_whileR {σ ρr : Type} {te : Te} {g : Blk} {c : σ → Q Bool} {body : σ → Q (LF σ ρr)} {t2 : σ → Q β} {t3 : ρr → Q β} {κ : AS → Q β → Prop} (AL : σ → AS) (GR : RV → AS → ρr → Prop)
    (hc' : ∀ s, CT te (AL s) (c s) (fun b B t' => ∃ b', t' = .ok b' ∧ b = b' ∧ Weak B (AL s)) (Gj Γ (fun b => .dat (.bool b)) (fun _ => AL s)))
    (hb : ∀ s, CB g (AL s) (body s) (fun C t'' => ∃ s', t'' = .ok (.nx s') ∧ Weak C (AL s')) (Glf Γ AL GR))
    (hk : ∀ s, κ (AL s) (t2 s)) (hr : ∀ v B r, GR v B r → ∃ a, t3 r = .ok a ∧ Γ.G (.rt v B) a) : ∀ {n : Nat} {s0 : σ} {A : AS}, Weak A (AL s0) → CB (whileN te g n) A ((whileQ c body n s0).lf t2 t3) κ Γ
  | 0, s0, A, w => fun ρ S k E hc => trivial
  | n + 1, s0, A, w => fun ρ S k E hc => by
    rw [whileN_succ, whileQ, st_fl, Q.lf, Q.bind_bind]
    refine ct_join (Γ := Γ) (σ := Bool) (κ := fun b B t' => B = AL s0 ∧ t' = (if b = true then (body s0).bind fun l => match l with
      | .nx s' => whileQ c body n s'
      | .bk s' => .ok (.bk s')
      | .rt v => .ok (.rt v) else .ok (.nx s0)).lf t2 t3) (fun b => b) (fun _ => AL s0) (hc' s0) (fun b => ⟨rfl, rfl⟩) ρ S _ (E.weak w) ?_
    intro b B S' t' h1 E1
    obtain ⟨rfl, rfl⟩ := h1
    cases b with
    | false => exact hc _ _ _ _ (hk s0) E1
    | true =>
      have k1 := hb s0 ρ S' (fun ρ S => .ok (.nx ρ) S) E1 fun B ρ' S' t' ⟨s', e1, e2⟩ E1 => by
        subst e1; exact ⟨.nx B, E1, e2⟩
      rw [fl_id] at k1
      show Ref Γ ((lstep (g ρ S') (whileN te g n)).fl k) (Q.lf ((body s0).bind fun l => match l with
        | .nx s' => whileQ c body n s'
        | .bk s' => .ok (.bk s')
        | .rt v => .ok (.rt v)) t2 t3)
      revert k1
      generalize g ρ S' = r
      generalize body s0 = q
      intro k1
      cases q with
      | bad => trivial
      | exc x os =>
        obtain ⟨ρ1, S1, B, rfl, e2, e3⟩ := k1
        exact ⟨_, _, B, rfl, e2, e3⟩
      | ok l =>
        obtain ⟨fl, m1, g1⟩ := k1
        rw [Q.ok_bind]
        have ih := fun (s : σ) (B : AS) (hw : Weak B (AL s)) => cl_whileR AL GR hc' hb hk hr (n := n) (s0 := s) (A := B) hw
        cases r with
        | exc x S' => exact m1.elim
        | bad => exact m1.elim
        | ok f' S' =>
          cases f' with
          | nx ρ' =>
            cases fl with
            | nx B =>
              cases l with
              | nx s => exact ih s B g1 ρ' S' k m1 hc
              | _ => exact g1.elim
            | _ => exact m1.elim
          | ct ρ' =>
            cases fl with
            | ct B =>
              cases l with
              | nx s => exact ih s B g1 ρ' S' k m1 hc
              | _ => exact g1.elim
            | _ => exact m1.elim
          | bk ρ' =>
            cases fl with
            | bk B =>
              cases l with
              | bk s => exact hc _ _ _ _ (hk s) ((show Env B ρ' S' from m1).weak g1)
              | _ => exact g1.elim
            | _ => exact m1.elim
          | rt v =>
            cases fl with
            | rt v' B =>
              cases l with
              | rt r =>
                obtain ⟨a, e, g⟩ := hr _ _ _ g1
                show Ref Γ _ (t3 r)
                rw [e]
                exact ⟨.rt v' B, m1, g⟩
              | _ => exact g1.elim
            | _ => exact m1.elim
          | ex x ρ' => cases fl <;> exact m1.elim
/-- going through a dict's keys -/
theorem cb_forK {σ : Type} {i : Nat} {tg : Tg} {g : Blk} {q : Q σ} {t2 : σ → Q β} {κ : AS → Q β → Prop} (AL : σ → AS)
    (h : CB (sFor (itKeys i) tg g) A q (fun B t => ∃ s, t = .ok s ∧ Weak B (AL s)) ⟨(Gj1 Γ AL).G, fun _ _ => False⟩) (hk : ∀ s, κ (AL s) (t2 s)) : CB (sForK i tg g) A (q.bind t2) κ Γ := fun ρ S k E hc => by
  have k1 := h ρ S (fun ρ' S' => .ok (.nx ρ') S') E fun B ρ' S' t' ⟨s, h1, h2⟩ E1 => by
    subst h1; exact ⟨.nx B, E1, h2⟩
  rw [fl_id] at k1
  cases q with
  | bad => trivial
  | exc x os =>
    obtain ⟨ρ1, S1, B, e1, e2, e3⟩ := k1
    exact e3.elim
  | ok s =>
    obtain ⟨fl, m1, g1⟩ := k1
    unfold sForK
    cases fl with
    | nx B =>
      cases he : sFor (itKeys i) tg g ρ S with
      | ok f S' =>
        rw [he] at m1
        cases f with
        | nx ρ' => exact hc _ _ _ _ (hk s) ((show Env B ρ' S' from m1).weak g1)
        | _ => exact m1.elim
      | exc x S' => rw [he] at m1; exact m1.elim
      | bad => rw [he] at m1; exact m1.elim
    | _ => exact g1.elim
theorem cb_forKR {σ ρr : Type} {i : Nat} {tg : Tg} {g : Blk} {q : Q (LF σ ρr)} {t2 : σ → Q β} {t3 : ρr → Q β} {κ : AS → Q β → Prop} (AL : σ → AS) (GR : RV → AS → ρr → Prop)
    (h : CB (sFor (itKeys i) tg g) A q (fun B t => ∃ s, t = .ok (.nx s) ∧ Weak B (AL s)) ⟨fun fl l => match fl, l with | .nx B, .nx s => Weak B (AL s) | .rt v B, .rt r => GR v B r | _, _ => False, fun _ _ => False⟩) (hk : ∀ s, κ (AL s) (t2 s))
    (hr : ∀ v B r, GR v B r → ∃ a, t3 r = .ok a ∧ Γ.G (.rt v B) a) : CB (sForK i tg g) A (q.lf t2 t3) κ Γ := fun ρ S k E hc => by
  have k1 := h ρ S (fun ρ' S' => .ok (.nx ρ') S') E fun B ρ' S' t' ⟨s, h1, h2⟩ E1 => by
    subst h1; exact ⟨.nx B, E1, h2⟩
  rw [fl_id] at k1
  cases q with
  | bad => trivial
  | exc x os =>
    obtain ⟨ρ1, S1, B, e1, e2, e3⟩ := k1
    exact e3.elim
  | ok l =>
    obtain ⟨fl, m1, g1⟩ := k1
    unfold sForK
    cases he : sFor (itKeys i) tg g ρ S with
    | ok f S' =>
      rw [he] at m1
      cases f with
      | nx ρ' =>
        cases fl with
        | nx B =>
          cases l with
          | nx s => exact hc _ _ _ _ (hk s) ((show Env B ρ' S' from m1).weak g1)
          | _ => exact g1.elim
        | _ => exact m1.elim
      | rt v =>
        cases fl with
        | rt v' B =>
          cases l with
          | rt r =>
            obtain ⟨a, e, g⟩ := hr _ _ _ g1
            rw [Q.lf_rt, e]
            exact ⟨.rt v' B, m1, g⟩
          | _ => exact g1.elim
        | _ => exact m1.elim
      | bk _ => cases fl <;> first | exact m1.elim | (cases l <;> exact g1.elim)
      | ct _ => cases fl <;> first | exact m1.elim | (cases l <;> exact g1.elim)
      | ex _ _ => cases fl <;> exact m1.elim
    | exc x S' => rw [he] at m1; exact m1.elim
    | bad => rw [he] at m1; exact m1.elim
/-! ### comprehensions -/
def compQ {α σ γ : Type} : List α → σ → (α → σ → Q (Option γ × σ)) → Q (List γ × σ)
  | [], s, _ => .ok ([], s)
  | x :: r, s, f => (f x s).noX.bind fun p => (compQ r p.2 f).bind fun q => .ok (p.1.toList ++ q.1, q.2)
def compQ0 {α γ : Type} : List α → (α → Q (Option γ)) → Q (List γ)
  | [], _ => .ok []
  | x :: r, f => (f x).noX.bind fun p => (compQ0 r f).bind fun q => .ok (p.toList ++ q)
def TgIn (tg : Tg) (vs : List Nat) : Prop := ∀ v ρ S ρ1 S1, tg v ρ S = .ok ρ1 S1 → S1 = S ∧ ρ1.length = ρ.length ∧ ∀ i, i ∉ vs → ρ1[i]? = ρ[i]?
def TgsIn (tg : Tgs) (vs : List Nat) : Prop := ∀ v ρ S ρ1 S1, tg v ρ S = .ok ρ1 S1 → S1 = S ∧ ρ1.length = ρ.length ∧ ∀ i, i ∉ vs → ρ1[i]? = ρ[i]?
theorem tgin_nm {i : Nat} {vs : List Nat} (h : i ∈ vs) : TgIn (gNm i) vs := fun v ρ S ρ1 S1 e => by
  cases e
  exact ⟨rfl, List.length_set, fun j hj => List.getElem?_set_ne fun (e : i = j) => hj (e ▸ h)⟩
theorem tgin_tp {n : Nat} {gs : Tgs} {vs : List Nat} (h : TgsIn gs vs) : TgIn (gTp n gs) vs := fun v ρ S ρ1 S1 e => by
  simp only [gTp] at e
  split at e
  · split at e
    · exact h _ _ _ _ _ e
    · cases e
  · cases e
theorem tgsin_nil {vs : List Nat} : TgsIn gsNil vs := fun v ρ S ρ1 S1 e => by
  simp only [gsNil] at e
  split at e
  · cases e; exact ⟨rfl, rfl, fun _ _ => rfl⟩
  · cases e
theorem tgsin_cons {g : Tg} {gs : Tgs} {vs : List Nat} (h : TgIn g vs) (h2 : TgsIn gs vs) : TgsIn (gsCons g gs) vs := fun v ρ S ρ1 S1 e => by
  simp only [gsCons] at e
  split at e
  · rename_i d r
    cases hg : g (.d d) ρ S with
    | ok ρ2 S2 =>
      rw [hg] at e
      obtain ⟨rfl, l1, a⟩ := h _ _ _ _ _ hg
      obtain ⟨rfl, l2, b⟩ := h2 _ _ _ _ _ e
      exact ⟨rfl, l2.trans l1, fun i hi => (b i hi).trans (a i hi)⟩
    | exc x S' => rw [hg] at e; cases e
    | bad => rw [hg] at e; cases e
  · cases e
theorem wipeE_get {vs : List Nat} {ρ : Ev} {i : Nat} (h : i ∉ vs) : (wipeE ρ vs)[i]? = ρ[i]? := by
  induction vs with
  | nil => rfl
  | cons v vs ih =>
    simp only [List.mem_cons, not_or] at h
    simp only [wipeE]
    rw [List.getElem?_set_ne (fun e => h.1 e.symm), ih h.2]
theorem wipeE_len {vs : List Nat} {ρ : Ev} : (wipeE ρ vs).length = ρ.length := by
  induction vs with
  | nil => rfl
  | cons v vs ih => simp [wipeE, ih]
theorem Env.wipe {ρ : Ev} {S : Sto} (E : Env A ρ S) {vs : List Nat} (hv : ∀ v ∈ vs, ∀ sv, A[v]? ≠ some (some sv)) : Env A (wipeE ρ vs) S := by
  have g : ∀ (i : Nat) (sv : SV), A[i]? = some (some sv) → (wipeE ρ vs)[i]? = ρ[i]? := fun i sv h => wipeE_get fun m => hv i m sv h
  exact ⟨wipeE_len.trans E.len, fun i sv h => by rw [g i sv h]; exact E.at' i sv h, fun i j sv sv' n hi hj h1 h2 => by
    rw [g i sv hi] at h1; rw [g j sv' hj] at h2; exact E.inj i j sv sv' n hi hj h1 h2⟩
def Git {σ γ : Type} (g : γ → D) (AL : σ → AS) : Gx (Option γ × σ) where
  G := fun fl p => match fl with
    | .nx B => Weak B (AL p.2)
    | .bk B => p.1 = none ∧ Weak B (AL p.2)
    | .rt v _ => ∃ y, p.1 = some y ∧ v = .dat (g y)
    | _ => False
  E := fun _ _ => True
/-- one turn of a comprehension -/
theorem item_of {α σ γ : Type} {tg : Tg} {tt : Te} {fe : Ex} {vs : List Nat} {x : α} {s : σ} {q : Q (Option γ × σ)} (f : α → D) (g : γ → D) (AL : σ → AS) (ht : TgIn tg vs) (hv : ∀ v ∈ vs, ∀ s sv, (AL s)[v]? ≠ some (some sv))
    (h : CG tg (f x) (AL s) q (fun B t => CT tt B t (fun b C t' => (b = true → CE fe C t' (fun rv D t'' => ∃ y s', t'' = .ok (some y, s') ∧ rv = .dat (g y) ∧ Weak D (AL s')) (Git g AL)) ∧ (b = false → ∃ s', t' = .ok (none, s') ∧ Weak C (AL s'))) (Git g AL)) (Git g AL))
    {ρ : Ev} {S : Sto} (E : Env (AL s) ρ S) : ∀ p, q = .ok p → ∃ S', item vs tg tt fe ρ (f x) S = .ok (p.1.map g) S' ∧ Env (AL p.2) ρ S' := by
  intro p hq
  have run : ∀ (k : Val → Ev → Sto → R Flow), (∀ v ρ1 S' rv D y s', rv = .dat (g y) → Weak D (AL s') → Env D ρ1 S' → VR D ρ1 S' rv v → Ref (Git g AL) (k v ρ1 S') (.ok (some y, s'))) →
      Ref (Git g AL) (((tg (.d (f x)) (wipeE ρ vs) S).noX).st ρ fun ρ1 S1 => (tt ρ1 S1).st ρ1 fun b S2 => match b with | true => (fe ρ1 S2).st ρ1 fun v S3 => k v ρ1 S3 | false => .ok (.bk ρ1) S2) q := fun k hk =>
    h (wipeE ρ vs) S ρ _ (E.wipe fun v hv' => hv v hv' s) fun B ρ1 S1 t1 h1 E1 => h1 ρ1 S1 _ E1 fun b C S2 t2 h2 E2 => by
      cases b with
      | false =>
        obtain ⟨s', rfl, hw⟩ := h2.2 rfl
        exact ⟨.bk C, E2, rfl, hw⟩
      | true =>
        refine h2.1 rfl ρ1 S2 _ E2 fun rv v D S3 t3 h3 E3 q3 => ?_
        obtain ⟨y, s', rfl, rfl, hw⟩ := h3
        exact hk v ρ1 S3 _ D y s' rfl hw E3 q3
  have k1 := run (fun v ρ1 S' => .ok (.rt v) S') fun v ρ1 S' rv D y s' e hw E1 q1 => ⟨.rt rv D, ⟨ρ1, E1, q1⟩, y, rfl, e⟩
  have k2 := run (fun v ρ1 S' => .ok (.nx ρ1) S') fun v ρ1 S' rv D y s' e hw E1 q1 => ⟨.nx D, E1, hw⟩
  clear run h
  subst hq
  obtain ⟨fl, m1, g1⟩ := k1
  obtain ⟨fl2, m2, g2⟩ := k2
  have bring : ∀ {B : AS} {ρ1 : Ev} {S' : Sto}, ρ1.length = ρ.length → (∀ i, i ∉ vs → ρ1[i]? = ρ[i]?) → Env B ρ1 S' → Weak B (AL p.2) → Env (AL p.2) ρ S' := fun {B ρ1 S'} hl he EB hw => by
    have E2 := EB.weak hw
    have gg : ∀ (i : Nat) (sv : SV), (AL p.2)[i]? = some (some sv) → ρ1[i]? = ρ[i]? := fun i sv hi => he i fun m => hv i m p.2 sv hi
    have hlen : ρ.length = (AL p.2).length := hl.symm.trans E2.len
    exact ⟨hlen, fun i sv hi => by rw [← gg i sv hi]; exact E2.at' i sv hi, fun i j sv sv' n hi hj h1 h2 => by
      rw [← gg i sv hi] at h1; rw [← gg j sv' hj] at h2; exact E2.inj i j sv sv' n hi hj h1 h2⟩
  unfold item
  cases htg : tg (.d (f x)) (wipeE ρ vs) S with
  | exc y S' => rw [htg] at m1; exact m1.elim
  | bad => rw [htg] at m1; exact m1.elim
  | ok ρ1 S1 =>
    rw [htg] at m1 m2
    obtain ⟨rfl, hl, hin⟩ := ht _ _ _ _ _ htg
    rw [wipeE_len] at hl
    have he : ∀ i, i ∉ vs → ρ1[i]? = ρ[i]? := fun i hi => (hin i hi).trans (wipeE_get hi)
    simp only [R.noX, R.st, R.bind] at m1 m2 ⊢
    cases htt : tt ρ1 S1 with
    | exc y S' => rw [htt] at m1; cases fl <;> exact m1.elim
    | bad => rw [htt] at m1; cases fl <;> exact m1.elim
    | ok b S2 =>
      rw [htt] at m1 m2
      cases b with
      | false =>
        cases fl with
        | bk B =>
          refine ⟨S2, ?_, bring hl he (show Env B ρ1 S2 from m1) g1.2⟩
          rw [g1.1]; rfl
        | _ => exact m1.elim
      | true =>
        simp only [] at m1 m2 ⊢
        cases hfe : fe ρ1 S2 with
        | exc y S' => rw [hfe] at m1; cases fl <;> exact m1.elim
        | bad => rw [hfe] at m1; cases fl <;> exact m1.elim
        | ok v S3 =>
          rw [hfe] at m1 m2
          cases fl with
          | rt rv B =>
            obtain ⟨y, e1, rfl⟩ := g1
            obtain ⟨_, _, q⟩ := m1
            cases q
            cases fl2 with
            | nx B2 =>
              refine ⟨S3, ?_, bring hl he (show Env B2 ρ1 S3 from m2) g2⟩
              rw [e1]; rfl
            | _ => exact m2.elim
          | _ => exact m1.elim
theorem compL_of {α σ γ : Type} {it : D → Sto → R (Option D)} {q : α → σ → Q (Option γ × σ)} (f : α → D) (g : γ → D) {ρ : Ev} (AL : σ → AS)
    (h : ∀ x s S, Env (AL s) ρ S → ∀ p, q x s = .ok p → ∃ S', it (f x) S = .ok (p.1.map g) S' ∧ Env (AL p.2) ρ S') : ∀ (xs : List α) (s : σ) (S : Sto), Env (AL s) ρ S → ∀ p, compQ xs s q = .ok p → ∃ S', compL it (xs.map f) S = .ok (p.1.map g) S' ∧ Env (AL p.2) ρ S'
  | [], s, S, E, p, hp => by cases hp; exact ⟨S, rfl, E⟩
  | x :: xs, s, S, E, p, hp => by
    simp only [compQ] at hp
    cases hq : q x s with
    | bad => rw [hq] at hp; cases hp
    | exc y os => rw [hq] at hp; cases hp
    | ok p1 =>
      rw [hq] at hp
      simp only [Q.ok_noX, Q.ok_bind] at hp
      obtain ⟨S1, h1, E1⟩ := h x s S E p1 hq
      cases hr : compQ xs p1.2 q with
      | bad => rw [hr] at hp; cases hp
      | exc y os => rw [hr] at hp; cases hp
      | ok p2 =>
        rw [hr] at hp
        cases hp
        obtain ⟨S2, h2, E2⟩ := compL_of f g AL h xs p1.2 S1 E1 p2 hr
        refine ⟨S2, ?_, E2⟩
        simp only [List.map_cons, compL, h1, R.bind, h2]
        cases p1.1 <;> simp
theorem compQ_exc {α σ γ : Type} {q : α → σ → Q (Option γ × σ)} : ∀ (xs : List α) (s : σ) (x : XV) (os : List O), compQ xs s q ≠ .exc x os
  | [], s, x, os => fun h => by cases h
  | y :: ys, s, x, os => fun h => by
    simp only [compQ] at h
    cases hq : q y s with
    | bad => rw [hq] at h; cases h
    | exc y os => rw [hq] at h; cases h
    | ok p1 =>
      rw [hq] at h
      simp only [Q.ok_noX, Q.ok_bind] at h
      cases hr : compQ ys p1.2 q with
      | bad => rw [hr] at h; cases h
      | exc y os => exact compQ_exc ys _ _ _ hr
      | ok p2 => rw [hr] at h; cases h
abbrev ItC {α σ γ : Type} (tg : Tg) (tt : Te) (fe : Ex) (f : α → D) (g : γ → D) (AL : σ → AS) (q : α → σ → Q (Option γ × σ)) : Prop :=
  ∀ x s, CG tg (f x) (AL s) (q x s) (fun B t => CT tt B t (fun b C t' => (b = true → CE fe C t' (fun rv D t'' => ∃ y s', t'' = .ok (some y, s') ∧ rv = .dat (g y) ∧ Weak D (AL s')) (Git g AL)) ∧ (b = false → ∃ s', t' = .ok (none, s') ∧ Weak C (AL s'))) (Git g AL)) (Git g AL)
theorem ce_lc {γ : Type} {fi : Iy} {vs : List Nat} {tg : Tg} {tt : Te} {fe : Ex} {κ : RV → AS → Q β → Prop} (g : γ → D) (ht : TgIn tg vs)
    (h : CI fi A t (fun ds B t' => ∃ (α σ : Type) (f : α → D) (AL : σ → AS) (xs : List α) (s0 : σ) (q : α → σ → Q (Option γ × σ)) (k : List γ × σ → Q β), ds = xs.map f ∧ Weak B (AL s0) ∧ (∀ v ∈ vs, ∀ s sv, (AL s)[v]? ≠ some (some sv)) ∧
      t' = (compQ xs s0 q).bind k ∧ ItC tg tt fe f g AL q ∧ ∀ ys s, κ (.dat (.list (ys.map g))) (AL s) (k (ys, s))) Γ) : CE (eLc fi vs tg tt fe) A t κ Γ := fun ρ S k E hc => by
  simp only [eLc, cmp, bind_st]
  refine h ρ S _ E fun ds B S' t' h1 E1 => ?_
  obtain ⟨α, σ, f, AL, xs, s0, q, k2, rfl, hw, hv, rfl, hit, hk⟩ := h1
  cases hq : compQ xs s0 q with
  | bad => trivial
  | exc x os => exact absurd hq (compQ_exc _ _ _ _)
  | ok p =>
    obtain ⟨S2, h2, E2⟩ := compL_of f g AL (fun x s S E p hp => item_of f g AL ht hv (hit x s) E p hp) xs s0 S' (E1.weak hw) p hq
    rw [h2]
    exact hc _ _ _ _ _ (hk p.1 p.2) E2 rfl
theorem ce_lcN {γ : Type} {fi : Iy} {vs : List Nat} {tg : Tg} {tt : Te} {fe : Ex} {κ : RV → AS → Q β → Prop} (g : γ → D) (ht : TgIn tg vs)
    (h : CI fi A t (fun ds B t' => ∃ (α σ : Type) (f : α → D) (AL : σ → AS) (xs : List α) (s0 : σ) (q : α → σ → Q (Option γ × σ)) (k : List γ × σ → Q β), ds = xs.map f ∧ Weak B (AL s0) ∧ (∀ v ∈ vs, ∀ s sv, (AL s)[v]? ≠ some (some sv)) ∧
      t' = (compQ xs s0 q).bind k ∧ ItC tg tt fe f g AL q ∧ ∀ ys s, κ (.new (.lst (ys.map g))) (AL s) (k (ys, s))) Γ) : CE (eLcN fi vs tg tt fe) A t κ Γ := fun ρ S k E hc => by
  simp only [eLcN, bind_st]
  refine h ρ S _ E fun ds B S' t' h1 E1 => ?_
  obtain ⟨α, σ, f, AL, xs, s0, q, k2, rfl, hw, hv, rfl, hit, hk⟩ := h1
  cases hq : compQ xs s0 q with
  | bad => trivial
  | exc x os => exact absurd hq (compQ_exc _ _ _ _)
  | ok p =>
    obtain ⟨S2, h2, E2⟩ := compL_of f g AL (fun x s S E p hp => item_of f g AL ht hv (hit x s) E p hp) xs s0 S' (E1.weak hw) p hq
    rw [h2]
    exact hc _ _ _ _ _ (hk p.1 p.2) (E2.grow _) (vr_new E2 _)
theorem item_noexc2 {vs : List Nat} {tg : Tg} {tt : Te} {fe : Ex} {ρ : Ev} {d : D} {S : Sto} (x : XV) (S' : Sto) : item vs tg tt fe ρ d S ≠ .exc x S' := by
  unfold item
  cases tg (.d d) (wipeE ρ vs) S with
  | exc y S1 => intro h; cases h
  | bad => intro h; cases h
  | ok ρ1 S1 =>
    simp only [R.noX, R.bind]
    cases tt ρ1 S1 with
    | exc y S1 => intro h; cases h
    | bad => intro h; cases h
    | ok b S2 =>
      cases b with
      | false => intro h; cases h
      | true =>
        simp only []
        cases fe ρ1 S2 with
        | exc y S1 => intro h; cases h
        | bad => intro h; cases h
        | ok v S3 => cases v <;> (intro h; cases h)
theorem compL_noexc2 {it : D → Sto → R (Option D)} (h : ∀ d S x S', it d S ≠ .exc x S') : ∀ (ds : List D) (S : Sto) (x : XV) (S' : Sto), compL it ds S ≠ .exc x S'
  | [], S, x, S' => fun e => by cases e
  | d :: ds, S, x, S' => fun e => by
    simp only [compL] at e
    cases hi : it d S with
    | exc y S1 => exact h _ _ _ _ hi
    | bad => rw [hi] at e; cases e
    | ok o S1 =>
      rw [hi] at e
      simp only [R.bind] at e
      cases hc : compL it ds S1 with
      | exc y S1 => exact compL_noexc2 h _ _ _ _ hc
      | bad => rw [hc] at e; cases e
      | ok r S2 => rw [hc] at e; cases e
theorem ce_lcK {i : Nat} {vs : List Nat} {tg : Tg} {tt : Te} {fe : Ex} {κ : RV → AS → Q β → Prop} (h : CE (eLc (itKeys i) vs tg tt fe) A t κ Γ) : CE (eLcK i vs tg tt fe) A t κ Γ := fun ρ S k E hc => by
  have := h ρ S k E hc
  unfold eLcK
  cases he : eLc (itKeys i) vs tg tt fe ρ S with
  | ok v S' => rw [he] at this; exact this
  | bad => rw [he] at this; exact this
  | exc x S' =>
    exfalso
    simp only [eLc, cmp, itKeys] at he
    split at he
    · simp only [R.bind] at he
      rename_i kds _
      cases hc : compL (item vs tg tt fe ρ) (kds.map (·.1)) S with
      | exc y S1 => exact compL_noexc2 (fun d S x S' => item_noexc2 x S') _ _ _ _ hc
      | bad => rw [hc] at he; cases he
      | ok r S2 => rw [hc] at he; cases he
    · cases he
/-! compQ where each turn is done -/
theorem compQ_map {α γ σ : Type} (xs : List α) (s : σ) (h : α → γ) : compQ xs s (fun x s => .ok (some (h x), s)) = .ok (xs.map h, s) := by
  induction xs with
  | nil => rfl
  | cons x r ih => simp [compQ, ih]
end
end DL

namespace DL
open PySem L2
/-! ### functions -/
def vals : List SV → Nat → List Val
  | [], _ => []
  | .dat d :: r, k => .d d :: vals r k
  | .ob _ :: r, k => .loc k :: vals r (k + 1)
  | .par j _ :: r, k => .loc j :: vals r k
  | .scr ds :: r, k => .scr ds :: vals r k
  | .er o :: r, k => erV o :: vals r k
def objs : List SV → Sto
  | [] => []
  | .ob o :: r => some o :: objs r
  | _ :: r => objs r
def inA : List SV → Nat → AS
  | [], _ => []
  | .ob o :: r, k => some (.par k o) :: inA r (k + 1)
  | v :: r, k => some v :: inA r k
def RvOk (w : Val) (S : Sto) (m : Nat) : SV → Prop
  | .dat d => w = .d d
  | .ob o => ∃ n, w = .loc n ∧ m ≤ n ∧ S[n]? = some (some o)
  | _ => False
/-- a function over data and its typed form -/
def RFn0 {α : Type} (F : Fn) (as : List SV) (t : Q α) (v : α → SV) (os : α → List O) : Prop := match t with
  | .bad => True
  | .ok a => ∃ w S', F (vals as 0) (objs as) = .ok w S' ∧ S'.take (objs as).length = (os a).map some ∧ (os a).length = (objs as).length ∧ RvOk w S' (objs as).length (v a)
  | .exc x es => ∃ S', F (vals as 0) (objs as) = .exc x S' ∧ S'.take (objs as).length = es.map some ∧ es.length = (objs as).length
structure RFn {α : Type} (F : Fn) (as : List SV) (t : Q α) (v : α → SV) (os : α → List O) : Prop where
  run : RFn0 F as t v os
/-- the objects that were lent, as they are -/
def Prs : List Nat → Nat → AS → List O → Prop
  | [], _, _, [] => True
  | i :: is, j, B, o :: os => B[i]? = some (some (.par j o)) ∧ Prs is (j + 1) B os
  | _, _, _, _ => False
def RtOk (B : AS) : RV → SV → Prop
  | .dat d, .dat e => d = e
  | .new o, .ob o' => o = o'
  | .sl i, .ob o => B[i]? = some (some (.ob o))
  | _, _ => False
def Gf {α : Type} (is : List Nat) (v : α → SV) (os : α → List O) : Gx α where
  G := fun fl a => match fl with
    | .rt rv B => RtOk B rv (v a) ∧ Prs is 0 B (os a)
    | _ => False
  E := fun B es => Prs is 0 B es
theorem prs_get : ∀ {is : List Nat} {j : Nat} {B : AS} {os : List O} {ρ : Ev} {S : Sto}, Prs is j B os → Env B ρ S → is.length = os.length ∧ ∀ k, k < os.length → S[j + k]? = some os[k]? 
  | [], j, B, [], ρ, S, h, E => ⟨rfl, fun k hk => by simp at hk⟩
  | i :: is, j, B, o :: os, ρ, S, h, E => by
    obtain ⟨h1, h2⟩ := prs_get h.2 E
    refine ⟨by simp [h1], fun k hk => ?_⟩
    obtain ⟨v, _, rfl, hS⟩ := E.at' i _ h.1
    cases k with
    | zero => simpa using hS
    | succ k =>
      have := h2 k (by simpa using hk)
      simp only [List.getElem?_cons_succ]
      rw [← this]
      congr 1; omega
  | [], j, B, _ :: _, ρ, S, h, E => h.elim
  | _ :: _, j, B, [], ρ, S, h, E => h.elim
theorem prs_take {is : List Nat} {B : AS} {os : List O} {ρ : Ev} {S : Sto} (h : Prs is 0 B os) (E : Env B ρ S) {m : Nat} (hm : m = is.length) : S.take m = os.map some := by
  obtain ⟨h1, h2⟩ := prs_get h E
  apply List.ext_getElem?
  intro k
  by_cases hk : k < os.length
  · rw [List.getElem?_take_of_lt (by omega)]
    have := h2 k hk
    simp only [Nat.zero_add] at this
    rw [this, List.getElem?_map]
    rw [List.getElem?_eq_getElem hk]; rfl
  · rw [List.getElem?_eq_none (by simp; omega), List.getElem?_eq_none (by simp; omega)]
theorem prs_loc {is : List Nat} {B : AS} : ∀ {j : Nat} {os : List O}, Prs is j B os → ∀ k, k < is.length → ∃ (i : Nat) (o : O), B[i]? = some (some (SV.par (j + k) o)) := by
  induction is with
  | nil => intro j os h k hk; simp at hk
  | cons i is ih =>
    intro j os h k hk
    cases os with
    | nil => exact h.elim
    | cons o os =>
      cases k with
      | zero => exact ⟨i, o, h.1⟩
      | succ k =>
        obtain ⟨i', o', h'⟩ := ih h.2 k (by simpa using hk)
        exact ⟨i', o', by rw [show j + (k + 1) = j + 1 + k by omega]; exact h'⟩
theorem inA_len : ∀ (as : List SV) (k : Nat), (inA as k).length = as.length
  | [], _ => rfl
  | .dat _ :: r, k => by simp [inA, inA_len r k]
  | .ob _ :: r, k => by simp [inA, inA_len r (k + 1)]
  | .par _ _ :: r, k => by simp [inA, inA_len r k]
  | .scr _ :: r, k => by simp [inA, inA_len r k]
  | .er _ :: r, k => by simp [inA, inA_len r k]
def NoPar (as : List SV) : Prop := ∀ sv ∈ as, ∀ j o, sv ≠ .par j o
theorem in_at : ∀ (as : List SV) (T : Sto), NoPar as → ∀ (i : Nat) (sv : SV), (inA as T.length)[i]? = some (some sv) → ∃ v, (vals as T.length)[i]? = some v ∧ VM (T ++ objs as) sv v
  | [], T, _, i, sv, h => by simp [inA] at h
  | a :: r, T, hp, i, sv, h => by
    have hp' : NoPar r := fun sv hs => hp sv (List.mem_cons_of_mem _ hs)
    cases a with
    | dat d =>
      cases i with
      | zero => simp only [inA, List.getElem?_cons_zero] at h; cases h; exact ⟨.d d, rfl, rfl⟩
      | succ i => simp only [inA, List.getElem?_cons_succ] at h; simpa [vals, objs] using in_at r T hp' i sv h
    | scr d =>
      cases i with
      | zero => simp only [inA, List.getElem?_cons_zero] at h; cases h; exact ⟨.scr d, rfl, rfl⟩
      | succ i => simp only [inA, List.getElem?_cons_succ] at h; simpa [vals, objs] using in_at r T hp' i sv h
    | er d =>
      cases i with
      | zero => simp only [inA, List.getElem?_cons_zero] at h; cases h; exact ⟨erV d, rfl, rfl⟩
      | succ i => simp only [inA, List.getElem?_cons_succ] at h; simpa [vals, objs] using in_at r T hp' i sv h
    | par j o => exact absurd rfl (hp (.par j o) List.mem_cons_self j o)
    | ob o =>
      cases i with
      | zero =>
        simp only [inA, List.getElem?_cons_zero] at h; cases h
        exact ⟨.loc T.length, rfl, rfl, by simp [objs]⟩
      | succ i =>
        simp only [inA, List.getElem?_cons_succ] at h
        have := in_at r (T ++ [some o]) hp' i sv (by simpa using h)
        simpa [vals, objs] using this
theorem in_loc : ∀ (as : List SV) (k : Nat), NoPar as → ∀ (i : Nat) (n : Nat), (vals as k)[i]? = some (.loc n) → k ≤ n
  | [], k, _, i, n, h => by simp [vals] at h
  | a :: r, k, hp, i, n, h => by
    have hp' : NoPar r := fun sv hs => hp sv (List.mem_cons_of_mem _ hs)
    cases a with
    | dat d =>
      cases i with
      | zero => simp [vals] at h
      | succ i => exact in_loc r k hp' i n (by simpa [vals] using h)
    | scr d =>
      cases i with
      | zero => simp [vals] at h
      | succ i => exact in_loc r k hp' i n (by simpa [vals] using h)
    | er d =>
      cases i with
      | zero => cases d <;> simp [vals, erV] at h
      | succ i => exact in_loc r k hp' i n (by simpa [vals] using h)
    | par j o => exact absurd rfl (hp (.par j o) List.mem_cons_self j o)
    | ob o =>
      cases i with
      | zero => simp [vals] at h; omega
      | succ i => have := in_loc r (k + 1) hp' i n (by simpa [vals] using h); omega
theorem in_inj : ∀ (as : List SV) (k : Nat), NoPar as → ∀ (i j : Nat) (n : Nat), (vals as k)[i]? = some (.loc n) → (vals as k)[j]? = some (.loc n) → i = j
  | [], k, _, i, j, n, h, h2 => by simp [vals] at h
  | a :: r, k, hp, i, j, n, h, h2 => by
    have hp' : NoPar r := fun sv hs => hp sv (List.mem_cons_of_mem _ hs)
    cases a with
    | dat d =>
      cases i with
      | zero => simp [vals] at h
      | succ i =>
        cases j with
        | zero => simp [vals] at h2
        | succ j => rw [in_inj r k hp' i j n (by simpa [vals] using h) (by simpa [vals] using h2)]
    | scr d =>
      cases i with
      | zero => simp [vals] at h
      | succ i =>
        cases j with
        | zero => simp [vals] at h2
        | succ j => rw [in_inj r k hp' i j n (by simpa [vals] using h) (by simpa [vals] using h2)]
    | er d =>
      cases i with
      | zero => cases d <;> simp [vals, erV] at h
      | succ i =>
        cases j with
        | zero => cases d <;> simp [vals, erV] at h2
        | succ j => rw [in_inj r k hp' i j n (by simpa [vals] using h) (by simpa [vals] using h2)]
    | par j o => exact absurd rfl (hp (.par j o) List.mem_cons_self j o)
    | ob o =>
      cases i with
      | zero =>
        cases j with
        | zero => rfl
        | succ j =>
          have := in_loc r (k + 1) hp' j n (by simpa [vals] using h2)
          simp [vals] at h; omega
      | succ i =>
        have := in_loc r (k + 1) hp' i n (by simpa [vals] using h)
        cases j with
        | zero => simp [vals] at h2; omega
        | succ j => rw [in_inj r (k + 1) hp' i j n (by simpa [vals] using h) (by simpa [vals] using h2)]
theorem vals_len : ∀ (as : List SV) (k : Nat), (vals as k).length = as.length
  | [], _ => rfl
  | .dat _ :: r, k => by simp [vals, vals_len r k]
  | .ob _ :: r, k => by simp [vals, vals_len r (k + 1)]
  | .par _ _ :: r, k => by simp [vals, vals_len r k]
  | .scr _ :: r, k => by simp [vals, vals_len r k]
  | .er _ :: r, k => by simp [vals, vals_len r k]
theorem env_in (as : List SV) (n : Nat) (hp : NoPar as) : Env (inA as 0 ++ List.replicate n none) ((vals as 0).map some ++ List.replicate n none) (objs as) := by
  have hl : (inA as 0).length = as.length := inA_len as 0
  have get : ∀ (i : Nat) (sv : SV), (inA as 0 ++ List.replicate n none)[i]? = some (some sv) → i < as.length ∧ (inA as 0)[i]? = some (some sv) := fun i sv h => by
    by_cases hi : i < as.length
    · rw [List.getElem?_append_left (by omega)] at h; exact ⟨hi, h⟩
    · rw [List.getElem?_append_right (by omega), List.getElem?_replicate] at h
      split at h <;> simp at h
  have getv : ∀ (i : Nat), i < as.length → ((vals as 0).map some ++ List.replicate n none)[i]? = ((vals as 0)[i]?).map some := fun i hi => by
    rw [List.getElem?_append_left (by simp [vals_len, hi]), List.getElem?_map]
  refine ⟨by simp [inA_len, vals_len], fun i sv h => ?_, fun i j sv sv' m h h' g g' => ?_⟩
  · obtain ⟨hi, h⟩ := get i sv h
    obtain ⟨v, h1, h2⟩ := in_at as [] hp i sv h
    exact ⟨v, by rw [getv i hi]; simp only [List.length_nil] at h1; rw [h1]; rfl, by simpa using h2⟩
  · obtain ⟨hi, h⟩ := get i sv h
    obtain ⟨hj, h'⟩ := get j sv' h'
    rw [getv i hi] at g; rw [getv j hj] at g'
    refine in_inj as 0 hp i j m ?_ ?_
    · cases e : (vals as 0)[i]? with
      | none => rw [e] at g; cases g
      | some v => rw [e] at g; simp at g; rw [g]
    · cases e : (vals as 0)[j]? with
      | none => rw [e] at g'; cases g'
      | some v => rw [e] at g'; simp at g'; rw [g']
theorem rtOk {B : AS} {ρ : Ev} {S : Sto} {rv : RV} {sv : SV} {v : Val} {is : List Nat} {os : List O} (h : RtOk B rv sv) (hp : Prs is 0 B os) (E : Env B ρ S) (q : VR B ρ S rv v) {m : Nat} (hm : m = is.length) : RvOk v S m sv := by
  have hge : ∀ (n : Nat), (∀ k, k < is.length → n ≠ k) → m ≤ n := fun n hn => by
    cases Nat.lt_or_ge n m with
    | inl hlt => exact absurd rfl (hn n (by omega))
    | inr h => exact h
  cases rv with
  | dat d => cases sv with
    | dat e => cases h; exact q
    | _ => exact h.elim
  | new o => cases sv with
    | ob o' =>
      cases h
      obtain ⟨n, rfl, hS, hn⟩ := q
      refine ⟨n, rfl, hge n fun k hk e => ?_, hS⟩
      subst e
      obtain ⟨i, o2, hi⟩ := prs_loc hp n hk
      obtain ⟨w, hw, rfl, _⟩ := E.at' i _ hi
      rw [Nat.zero_add] at hw
      exact hn i _ hi hw
    | _ => exact h.elim
  | sl i => cases sv with
    | ob o =>
      have h : B[i]? = some (some (.ob o)) := h
      obtain ⟨n', sv', o', g0, g1, rfl, g4⟩ := q
      obtain ⟨w, hw, n, hwn, hS⟩ := E.at' i _ h
      rw [g1] at hw; cases hw; cases hwn
      refine ⟨n', rfl, hge n' fun k hk e => ?_, hS⟩
      subst e
      obtain ⟨i2, o2, hi2⟩ := prs_loc hp n' hk
      obtain ⟨w, hw, rfl, _⟩ := E.at' i2 _ hi2
      rw [Nat.zero_add] at hw
      have := E.inj i i2 _ _ _ h hi2 g1 hw
      subst this
      rw [h] at hi2; cases hi2
    | _ => exact h.elim
  | scr ds => cases sv <;> exact h.elim
  | er o => cases sv <;> exact h.elim
/-- a function's body -/
theorem rf_fn {α : Type} {n : Nat} {b : Blk} {as : List SV} {t : Q α} {v : α → SV} {os : α → List O} (is : List Nat) (hp : NoPar as) (hm : (objs as).length = is.length)
    (h : CB b (inA as 0 ++ List.replicate n none) t (fun B t' => ∃ a, t' = .ok a ∧ v a = .dat .none ∧ Prs is 0 B (os a)) (Gf is v os)) : RFn (mkFn n b) as t v os := ⟨by
  have E := env_in as n hp
  have k1 := h _ _ (fun ρ S => .ok (.rt (.d .none)) S) E fun B ρ' S' t' ⟨a, e, hv, hpr⟩ E1 => by
    subst e
    exact ⟨.rt (.dat .none) B, ⟨ρ', E1, rfl⟩, by rw [hv]; rfl, hpr⟩
  have e0 : mkFn n b (vals as 0) (objs as) = fin (b ((vals as 0).map some ++ List.replicate n none) (objs as)) := rfl
  unfold RFn0
  rw [e0]
  generalize b ((vals as 0).map some ++ List.replicate n none) (objs as) = r at k1 ⊢
  have hf : fin r = fin (r.fl fun ρ S => .ok (.rt (.d .none)) S) := by
    cases r with
    | ok f S => cases f <;> rfl
    | exc x S => rfl
    | bad => rfl
  rw [hf]
  generalize (r.fl fun ρ S => .ok (.rt (.d .none)) S) = r' at k1 ⊢
  cases t with
  | bad => trivial
  | ok a =>
    obtain ⟨fl, m1, g1⟩ := k1
    cases r' with
    | ok f S' =>
      cases f with
      | rt w =>
        cases fl with
        | rt rv B =>
          obtain ⟨ρ', E', q'⟩ := m1
          exact ⟨w, S', rfl, prs_take g1.2 E' hm, (prs_get g1.2 E').1.symm.trans hm.symm, rtOk g1.1 g1.2 E' q' hm⟩
        | _ => exact m1.elim
      | nx ρ' => cases fl <;> first | exact m1.elim | exact g1.elim
      | bk ρ' => cases fl <;> first | exact m1.elim | exact g1.elim
      | ct ρ' => cases fl <;> first | exact m1.elim | exact g1.elim
      | ex x ρ' => cases fl <;> first | exact m1.elim | exact g1.elim
    | exc x S' => exact m1.elim
    | bad => exact m1.elim
  | exc x es =>
    obtain ⟨ρ1, S1, B, rfl, e2, e3⟩ := k1
    exact ⟨S1, rfl, prs_take e3 e2 hm, (prs_get e3 e2).1.symm.trans hm.symm⟩⟩
/-! ### calls -/
inductive ArgOk (B : AS) : List RV → List SV → Prop
  | nil : ArgOk B [] []
  | dat {d : D} {rs : List RV} {as : List SV} : ArgOk B rs as → ArgOk B (.dat d :: rs) (.dat d :: as)
  | scr {d : List D} {rs : List RV} {as : List SV} : ArgOk B rs as → ArgOk B (.scr d :: rs) (.scr d :: as)
  | er {d : Option XV} {rs : List RV} {as : List SV} : ArgOk B rs as → ArgOk B (.er d :: rs) (.er d :: as)
  | new {o : O} {rs : List RV} {as : List SV} : ArgOk B rs as → ArgOk B (.new o :: rs) (.ob o :: as)
  | sl {i : Nat} {o : O} {rs : List RV} {as : List SV} : B[i]? = some (some (.ob o)) → ArgOk B rs as → ArgOk B (.sl i :: rs) (.ob o :: as)
  | slp {i j : Nat} {o : O} {rs : List RV} {as : List SV} : B[i]? = some (some (.par j o)) → ArgOk B rs as → ArgOk B (.sl i :: rs) (.ob o :: as)
def slots : List RV → List Nat
  | [] => []
  | .sl i :: r => i :: slots r
  | _ :: r => slots r
def updA (B : AS) : List RV → List O → AS
  | [], _ => B
  | .sl i :: r, o :: os => updA (B.set i ((B.getD i none).map (SV.wo o))) r os
  | .new _ :: r, _ :: os => updA B r os
  | .sl _ :: r, [] => B
  | .new _ :: r, [] => B
  | .dat _ :: r, os => updA B r os
  | .scr _ :: r, os => updA B r os
  | .er _ :: r, os => updA B r os
section
variable {B : AS} {ρ : Ev} {S : Sto}
theorem arg_vals : ∀ {rs : List RV} {as : List SV} {vs : List Val} (k : Nat), ArgOk B rs as → VRs B ρ S rs vs → Env B ρ S → rebase vs k = vals as k
  | _, _, _, k, .nil, .nil, E => rfl
  | _, _, _, k, .dat h, .cons q t, E => by cases q; simp only [rebase, vals, arg_vals k h t E]
  | _, _, _, k, .scr h, .cons q t, E => by cases q; simp only [rebase, vals, arg_vals k h t E]
  | _, _, _, k, .er (d := d) h, .cons q t, E => by cases q; cases d <;> simp only [rebase, vals, erV, arg_vals k h t E]
  | _, _, _, k, .new h, .cons q t, E => by obtain ⟨n, rfl, _⟩ := q; simp only [rebase, vals, arg_vals (k + 1) h t E]
  | _, _, _, k, .sl e h, .cons q t, E => by obtain ⟨n, _, _, _, _, rfl, _⟩ := q; simp only [rebase, vals, arg_vals (k + 1) h t E]
  | _, _, _, k, .slp e h, .cons q t, E => by obtain ⟨n, _, _, _, _, rfl, _⟩ := q; simp only [rebase, vals, arg_vals (k + 1) h t E]
theorem getD_some {n : Nat} {o : O} (h : S[n]? = some (some o)) : S.getD n none = some o := by rw [List.getD, h]; rfl
theorem arg_objs : ∀ {rs : List RV} {as : List SV} {vs : List Val}, ArgOk B rs as → VRs B ρ S rs vs → Env B ρ S → (lent vs).map (fun n => S.getD n none) = objs as ∧ (lent vs).all (isLive S) = true ∧ (lent vs).length = (objs as).length ∧ vs.length = as.length ∧ as.length = rs.length
  | _, _, _, .nil, .nil, E => ⟨rfl, rfl, rfl, rfl, rfl⟩
  | _, _, _, .dat h, .cons q t, E => by
    cases q
    obtain ⟨a, b, c, d, e⟩ := arg_objs h t E
    exact ⟨a, b, c, by simp [d], by simp [e]⟩
  | _, _, _, .scr h, .cons q t, E => by
    cases q
    obtain ⟨a, b, c, d, e⟩ := arg_objs h t E
    exact ⟨a, b, c, by simp [d], by simp [e]⟩
  | _, _, _, .er (d := z) h, .cons q t, E => by
    cases q
    obtain ⟨a, b, c, d, e⟩ := arg_objs h t E
    cases z <;> exact ⟨a, b, c, by simp [d], by simp [e]⟩
  | _, _, _, .new h, .cons q t, E => by
    obtain ⟨n, rfl, hS, _⟩ := q
    obtain ⟨a, b, c, d, e⟩ := arg_objs h t E
    exact ⟨by simp only [lent, objs, List.map_cons]; rw [a, getD_some hS], by simp only [lent, List.all_cons, b, isLive, hS, Bool.and_true], by simp [lent, objs, c], by simp [d], by simp [e]⟩
  | _, _, _, .sl (o := o) g h, .cons q t, E => by
    obtain ⟨n, _, o', _, g1, rfl, hS'⟩ := q
    obtain ⟨w, hw, m, rfl, hS⟩ := E.at' _ _ g
    rw [g1] at hw; cases hw
    obtain ⟨a, b, c, d, e⟩ := arg_objs h t E
    exact ⟨by simp only [lent, objs, List.map_cons]; rw [a, getD_some hS], by simp only [lent, List.all_cons, b, isLive, hS, Bool.and_true], by simp [lent, objs, c], by simp [d], by simp [e]⟩
  | _, _, _, .slp (o := o) g h, .cons q t, E => by
    obtain ⟨n, _, o', _, g1, rfl, hS'⟩ := q
    obtain ⟨w, hw, rfl, hS⟩ := E.at' _ _ g
    rw [g1] at hw; cases hw
    obtain ⟨a, b, c, d, e⟩ := arg_objs h t E
    exact ⟨by simp only [lent, objs, List.map_cons]; rw [a, getD_some hS], by simp only [lent, List.all_cons, b, isLive, hS, Bool.and_true], by simp [lent, objs, c], by simp [d], by simp [e]⟩
theorem lent_slot : ∀ {rs : List RV} {vs : List Val}, VRs B ρ S rs vs → ∀ n ∈ lent vs, (∃ i ∈ slots rs, ∃ sv, B[i]? = some (some sv) ∧ ρ[i]? = some (some (.loc n))) ∨ (n ∈ newLocs rs vs ∧ ∀ (i : Nat) (sv : SV), B[i]? = some (some sv) → ρ[i]? ≠ some (some (.loc n)))
  | _, _, .nil, n, h => by simp [lent] at h
  | .dat d :: rs, _, .cons q t, n, h => by cases q; simpa [slots, newLocs] using lent_slot t n h
  | .scr d :: rs, _, .cons q t, n, h => by cases q; simpa [slots, newLocs] using lent_slot t n h
  | .er d :: rs, _, .cons q t, n, h => by cases q; cases d <;> simpa [slots, newLocs] using lent_slot t n h
  | .new d :: rs, _, .cons q t, n, h => by
    obtain ⟨m, rfl, hS, hn⟩ := q
    simp only [lent, List.mem_cons] at h
    rcases h with rfl | h
    · exact .inr ⟨by simp [newLocs], hn⟩
    · rcases lent_slot t n h with ⟨i, hi, r⟩ | ⟨a, r⟩
      · exact .inl ⟨i, hi, r⟩
      · exact .inr ⟨by simp [newLocs, a], r⟩
  | .sl j :: rs, _, .cons q t, n, h => by
    obtain ⟨m, sv, o, g0, g1, rfl, g2⟩ := q
    simp only [lent, List.mem_cons] at h
    rcases h with rfl | h
    · exact .inl ⟨j, by simp [slots], sv, g0, g1⟩
    · rcases lent_slot t n h with ⟨i, hi, r⟩ | ⟨a, r⟩
      · exact .inl ⟨i, by simp [slots, hi], r⟩
      · exact .inr ⟨by simpa [newLocs] using a, r⟩
theorem lent_nodup (E : Env B ρ S) : ∀ {rs : List RV} {vs : List Val}, VRs B ρ S rs vs → (slots rs).Nodup → (newLocs rs vs).Nodup → (lent vs).Nodup
  | _, _, .nil, _, _ => by simp [lent]
  | .dat d :: rs, _, .cons q t, h, h2 => by cases q; have := lent_nodup E t h (by simpa [newLocs] using h2); simpa [lent] using this
  | .scr d :: rs, _, .cons q t, h, h2 => by cases q; have := lent_nodup E t h (by simpa [newLocs] using h2); simpa [lent] using this
  | .er d :: rs, _, .cons q t, h, h2 => by cases q; have := lent_nodup E t h (by simpa [newLocs] using h2); cases d <;> simpa [lent, erV] using this
  | .new d :: rs, _, .cons q t, h, h2 => by
    obtain ⟨m, rfl, hS, hn⟩ := q
    simp only [newLocs, List.nodup_cons] at h2
    simp only [lent, List.nodup_cons]
    refine ⟨fun hm => ?_, lent_nodup E t h h2.2⟩
    rcases lent_slot t m hm with ⟨i, hi, sv, g0, g1⟩ | ⟨a, r⟩
    · exact hn i sv g0 g1
    · exact h2.1 a
  | .sl j :: rs, _, .cons q t, h, h2 => by
    obtain ⟨m, sv, o, g0, g1, rfl, g2⟩ := q
    simp only [slots, List.nodup_cons] at h
    simp only [lent, List.nodup_cons]
    refine ⟨fun hm => ?_, lent_nodup E t h.2 (by simpa [newLocs] using h2)⟩
    rcases lent_slot t m hm with ⟨i, hi, sv', e0, e1⟩ | ⟨a, r⟩
    · have := E.inj j i _ _ _ g0 e0 g1 e1
      subst this
      exact h.1 hi
    · exact r j sv g0 g1
/-- what a slot's object is, from an expression's value -/
inductive LcA (ρ : Ev) : AS → List RV → List Val → Prop
  | nil {B : AS} : LcA ρ B [] []
  | dat {B : AS} {d : D} {rs : List RV} {vs : List Val} : LcA ρ B rs vs → LcA ρ B (.dat d :: rs) (.d d :: vs)
  | scr {B : AS} {d : List D} {rs : List RV} {vs : List Val} : LcA ρ B rs vs → LcA ρ B (.scr d :: rs) (.scr d :: vs)
  | er {B : AS} {d : Option XV} {rs : List RV} {vs : List Val} : LcA ρ B rs vs → LcA ρ B (.er d :: rs) (erV d :: vs)
  | new {B : AS} {o : O} {n : Nat} {rs : List RV} {vs : List Val} : (∀ (i : Nat) (sv : SV), B[i]? = some (some sv) → ρ[i]? ≠ some (some (.loc n))) → LcA ρ B rs vs → LcA ρ B (.new o :: rs) (.loc n :: vs)
  | sl {B : AS} {i n : Nat} {sv : SV} {rs : List RV} {vs : List Val} : B[i]? = some (some sv) → ρ[i]? = some (some (.loc n)) → LcA ρ B rs vs → LcA ρ B (.sl i :: rs) (.loc n :: vs)
theorem VRs.lc : ∀ {rs : List RV} {vs : List Val}, VRs B ρ S rs vs → LcA ρ B rs vs
  | _, _, .nil => .nil
  | .dat d :: rs, _, .cons q t => by cases q; exact .dat t.lc
  | .scr d :: rs, _, .cons q t => by cases q; exact .scr t.lc
  | .er d :: rs, _, .cons q t => by cases q; exact .er t.lc
  | .new d :: rs, _, .cons q t => by obtain ⟨m, rfl, hS, hn⟩ := q; exact .new hn t.lc
  | .sl j :: rs, _, .cons q t => by obtain ⟨m, sv, o, g0, g1, rfl, g2⟩ := q; exact .sl g0 g1 t.lc
theorem LcA.set {i : Nat} {sv sv' : SV} (hi : B[i]? = some (some sv)) : ∀ {rs : List RV} {vs : List Val}, LcA ρ B rs vs → LcA ρ (B.set i (some sv')) rs vs
  | _, _, .nil => .nil
  | _, _, .dat t => .dat (t.set hi)
  | _, _, .scr t => .scr (t.set hi)
  | _, _, .er t => .er (t.set hi)
  | _, _, .new hn t => .new (fun j s hj => by
      rcases getset hj with ⟨rfl, e⟩ | ⟨q, hj⟩
      · exact hn _ _ hi
      · exact hn _ _ hj) (t.set hi)
  | _, _, .sl (i := j) g0 g1 t => by
    by_cases q : i = j
    · subst q
      exact .sl (List.getElem?_set_self (lt_of_get g0)) g1 (t.set hi)
    · exact .sl (setget g0 q) g1 (t.set hi)
theorem puts_env : ∀ {rs : List RV} {vs : List Val} {B : AS} {S S' : Sto} {os : List O}, LcA ρ B rs vs → Env B ρ S → S'.take (lent vs).length = os.map some → os.length = (lent vs).length → Env (updA B rs os) ρ (puts S (lent vs) S')
  | _, _, B, S, S', os, .nil, E, h, hl => E
  | _, _, B, S, S', os, .dat t, E, h, hl => by
    have := puts_env t E h hl
    cases os <;> simpa [updA, lent] using this
  | _, _, B, S, S', os, .scr t, E, h, hl => by
    have := puts_env t E h hl
    cases os <;> simpa [updA, lent] using this
  | _, _, B, S, S', os, .er (d := z) t, E, h, hl => by
    cases z with
    | none =>
      have := puts_env t E h hl
      cases os <;> simpa [updA, lent, erV] using this
    | some z =>
      have := puts_env t E h hl
      cases os <;> simpa [updA, lent, erV] using this
  | _, _, B, S, S', os, .new (n := n) hn t, E, h, hl => by
    cases S' with
    | nil => cases os with
      | nil => simp [lent] at hl
      | cons o os => simp [lent] at h
    | cons s S' =>
      cases os with
      | nil => simp [lent] at h
      | cons o os =>
        simp only [lent, List.length_cons, List.take_succ_cons, List.map_cons, List.cons.injEq] at h
        obtain ⟨rfl, h⟩ := h
        simp only [updA, lent, puts, List.headD, List.tail]
        exact puts_env t (E.off fun i sv m o' hi hr hS => setget hS fun e => by subst e; exact hn i sv hi hr) h (by simpa [lent] using hl)
  | _, _, B, S, S', os, .sl (i := i) (n := n) (sv := sv) g0 g1 t, E, h, hl => by
    cases S' with
    | nil => cases os with
      | nil => simp [lent] at hl
      | cons o os => simp [lent] at h
    | cons s S' =>
      cases os with
      | nil => simp [lent] at h
      | cons o os =>
        simp only [lent, List.length_cons, List.take_succ_cons, List.map_cons, List.cons.injEq] at h
        obtain ⟨rfl, h⟩ := h
        simp only [updA, lent, puts, List.headD, List.tail]
        have hg : (B.getD i none).map (SV.wo o) = some (sv.wo o) := by simp [List.getD, g0]
        rw [hg]
        exact puts_env (t.set g0) (E.setO o g0 g1) h (by simpa [lent] using hl)
theorem puts_len : ∀ (ns : List Nat) (S S' : Sto), (puts S ns S').length = S.length
  | [], S, S' => rfl
  | n :: ns, S, S' => by simp [puts, puts_len ns]
end
def rvOf : SV → RV
  | .dat d => .dat d
  | .ob o => .new o
  | .par _ o => .new o
  | .scr ds => .scr ds
  | .er o => .er o
section
variable {β : Type} {Γ : Gx β} {A : AS} {t : Q β}
theorem ref_call {α : Type} {F : Fn} {n : Nat} {rvs : List RV} {vs : List Val} {as : List SV} {q : Q α} {v : α → SV} {os : α → List O} {B : AS} {ρ : Ev} {S : Sto} {κ : RV → AS → Q β → Prop} {k : Val → Sto → R Flow} {t2 : α → Q β} {fe : List O → List O}
    (E : Env B ρ S) (q1 : VRs B ρ S rvs vs) (ha : ArgOk B rvs as) (hn : rvs.length = n) (hnd : (slots rvs).Nodup) (hnw : (newLocs rvs vs).Nodup) (hF : RFn F as q v os)
    (hk : ∀ a, κ (rvOf (v a)) (updA B rvs (os a)) (t2 a)) (hx : ∀ x es, q = .exc x es → es.length = (objs as).length → Γ.E (updA B rvs es) (fe es))
    (hc : ∀ rv v B S' t', κ rv B t' → Env B ρ S' → VR B ρ S' rv v → Ref Γ (k v S') t') : Ref Γ ((callM n F vs S).st ρ k) ((q.ex fe).bind t2) := by
  obtain ⟨o1, o2, o3, o4, o5⟩ := arg_objs ha q1 E
  have o6 := arg_vals 0 ha q1 E
  have o7 := lent_nodup E q1 hnd hnw
  unfold callM
  rw [if_pos ⟨by omega, o7, o2⟩, o1, o6]
  cases q with
  | bad => trivial
  | exc x es =>
    obtain ⟨S', e1, e2, e3⟩ := hF.run
    rw [e1]
    refine ⟨ρ, _, _, rfl, puts_env q1.lc E ?_ ?_, hx x es rfl e3⟩
    · rw [o3]; exact e2
    · rw [o3]; exact e3
  | ok a =>
    obtain ⟨w, S', e1, e2, e3, e4⟩ := hF.run
    rw [e1]
    have E2 : Env (updA B rvs (os a)) ρ (puts S (lent vs) S') := puts_env q1.lc E (by rw [o3]; exact e2) (by rw [o3]; exact e3)
    have hk := hk a
    cases hv : v a with
    | dat d =>
      rw [hv] at e4 hk
      cases (show w = .d d from e4)
      exact hc _ _ _ _ _ hk E2 rfl
    | ob o =>
      rw [hv] at e4 hk
      obtain ⟨m, rfl, hm, hS⟩ := e4
      have hb : (lent vs)[m]? = none := List.getElem?_eq_none (by omega)
      simp only [back, hb, hS, R.st]
      refine hc _ _ _ _ _ hk (E2.grow _) ?_
      have := vr_new E2 o
      rwa [puts_len] at this
    | par j o => rw [hv] at e4; exact e4.elim
    | scr ds => rw [hv] at e4; exact e4.elim
    | er ds => rw [hv] at e4; exact e4.elim
/-- a call: errors go on as they are told by fe -/
theorem ce_call {F : Fn} {n : Nat} {f : La} {κ : RV → AS → Q β → Prop}
    (h : CA f A t (fun rvs B t' => ∃ (α : Type) (as : List SV) (q : Q α) (v : α → SV) (os : α → List O) (fe : List O → List O) (t2 : α → Q β), t' = (q.ex fe).bind t2 ∧ ArgOk B rvs as ∧ rvs.length = n ∧ (slots rvs).Nodup ∧ RFn F as q v os ∧
      (∀ a, κ (rvOf (v a)) (updA B rvs (os a)) (t2 a)) ∧ ∀ x es, q = .exc x es → es.length = (objs as).length → Γ.E (updA B rvs es) (fe es)) Γ) : CE (eCall n F f) A t κ Γ := fun ρ S k E hc => by
  simp only [eCall, bind_st]
  refine h ρ S _ E fun rvs vs B S' t' h1 E1 q1 hnw => ?_
  obtain ⟨α, as, q, v, os, fe, t2, rfl, ha, hn, hnd, hF, hk, hx⟩ := h1
  exact ref_call E1 q1 ha hn hnd hnw hF hk hx hc
theorem Q.ex_id {α : Type} (q : Q α) : q.ex (fun es => es) = q := by cases q <;> rfl
/-- a call of a function that never raises, as far as it is shown -/
theorem ce_callN {F : Fn} {n : Nat} {f : La} {κ : RV → AS → Q β → Prop}
    (h : CA f A t (fun rvs B t' => ∃ (α : Type) (as : List SV) (q : Q α) (v : α → SV) (os : α → List O) (t2 : α → Q β), t' = q.noX.bind t2 ∧ ArgOk B rvs as ∧ rvs.length = n ∧ (slots rvs).Nodup ∧ RFn F as q v os ∧
      ∀ a, κ (rvOf (v a)) (updA B rvs (os a)) (t2 a)) Γ) : CE (eCall n F f) A t κ Γ := fun ρ S k E hc => by
  simp only [eCall, bind_st]
  refine h ρ S _ E fun rvs vs B S' t' h1 E1 q1 hnw => ?_
  obtain ⟨α, as, q, v, os, t2, rfl, ha, hn, hnd, hF, hk⟩ := h1
  cases q with
  | bad => trivial
  | exc x es => trivial
  | ok a => exact ref_call (fe := fun es => es) E1 q1 ha hn hnd hnw hF hk (fun x es e => by cases e) hc
/-- a call of data alone, where errors need no word -/
theorem ce_call0 {α : Type} {F : Fn} {n : Nat} {f : La} {ds : List D} {q : Q α} {v : α → SV} {os : α → List O} {t2 : α → Q β} {κ : RV → AS → Q β → Prop} (ha : PA1 f A ds) (hn : ds.length = n) (hF : RFn F (ds.map .dat) q v os)
    (hk : ∀ a, κ (rvOf (v a)) A (t2 a)) (hx : Γ.E A []) : CE (eCall n F f) A (q.bind t2) κ Γ := by
  have hobj : ∀ ds : List D, objs (ds.map .dat) = [] := fun ds => by induction ds with
    | nil => rfl
    | cons d r ih => simpa [objs] using ih
  have hupd : ∀ (ds : List D) (es : List O), updA A (ds.map .dat) es = A := fun ds es => by induction ds with
    | nil => simp [updA]
    | cons d r ih => simpa [updA] using ih
  have hsl : ∀ ds : List D, slots (ds.map .dat) = [] := fun ds => by induction ds with
    | nil => rfl
    | cons d r ih => simpa [slots] using ih
  have hao : ∀ ds : List D, ArgOk A (ds.map .dat) (ds.map .dat) := fun ds => by induction ds with
    | nil => exact .nil
    | cons d r ih => exact .dat ih
  refine ce_call (ca_pure ha ⟨α, ds.map .dat, q, v, os, fun es => es, t2, by rw [Q.ex_id], hao ds, by simpa using hn, by rw [hsl]; simp, hF, fun a => ?_, fun x es e hl => ?_⟩)
  · rw [hupd]; exact hk a
  · rw [hobj] at hl
    cases es with
    | nil => rw [hupd]; exact hx
    | cons o es => simp at hl
/-! a call that gives a new object, of data alone -/
def PAV (f : La) (A : AS) (svs : List SV) : Prop := objs svs = [] ∧ ∀ ρ S, Env A ρ S → ∃ vs, f ρ S = .ok vs S ∧ lent vs = [] ∧ vs = vals svs 0
theorem pav_nil : PAV aNil A [] := ⟨rfl, fun ρ S E => ⟨[], rfl, rfl, rfl⟩⟩
theorem pav_dat {e : Ex} {r : La} {d : D} {svs : List SV} (h : PE1 e A d) (hr : PAV r A svs) : PAV (aCons e r) A (.dat d :: svs) := ⟨hr.1, fun ρ S E => by
  obtain ⟨vs, h1, h2, h3⟩ := hr.2 ρ S E
  exact ⟨.d d :: vs, by simp only [aCons, h ρ S E, h1, R.bind], h2, by rw [h3]; rfl⟩⟩
theorem pav_scr {i : Nat} {ds : List D} {r : La} {svs : List SV} (h : A[i]? = some (some (.scr ds))) (hr : PAV r A svs) : PAV (aCons (eVar i) r) A (.scr ds :: svs) := ⟨hr.1, fun ρ S E => by
  obtain ⟨vs, h1, h2, h3⟩ := hr.2 ρ S E
  obtain ⟨v, g1, g2⟩ := E.at' i _ h
  cases g2
  exact ⟨.scr ds :: vs, by simp only [aCons, eVar, g1, h1, R.bind], h2, by rw [h3]; rfl⟩⟩
theorem pn_call {α : Type} {F : Fn} {n : Nat} {f : La} {svs : List SV} {q : Q α} {v : α → SV} {os : α → List O} {o : α → O} (ha : PAV f A svs) (hn : svs.length = n) (hF : RFn F svs q v os) (hv : ∀ a, v a = .ob (o a)) : ∀ ρ S, Env A ρ S → ∀ a, q = .ok a → eCall n F f ρ S = .ok (.loc S.length) (S ++ [some (o a)]) := fun ρ S E a hq => by
  obtain ⟨vs, h1, h2, h3⟩ := ha.2 ρ S E
  subst hq
  obtain ⟨w, S', e1, e2, e3, e4⟩ := hF.run
  rw [hv a] at e4
  obtain ⟨m, rfl, hm, hS⟩ := e4
  rw [ha.1, ← h3] at e1
  simp only [eCall, h1, R.bind, callM, h2]
  rw [if_pos ⟨by rw [h3, vals_len, hn], by simp, by simp⟩, rebase_nil vs 0 h2]
  simp only [List.map_nil, e1, back, List.getElem?_nil, hS, puts]
end
end DL

namespace DL
open PySem L2
/-! ### typed data -/
abbrev eI : Int → D := PyData.int
abbrev eB : Bool → D := PyData.bool
abbrev eS : Str → D := PyData.str
abbrev eN : Unit → D := fun _ => PyData.none
abbrev eD : D → D := fun x => x
abbrev eV {α : Type} (e : α → D) : List α → D := fun l => .tuple (l.map e)
abbrev eL {α : Type} (e : α → D) : List α → D := fun l => .list (l.map e)
def eO {α : Type} (e : α → D) : Option α → D
  | none => .none
  | some x => e x
abbrev eK {α : Type} (e : α → D) : List (Int × α) → D := fun m => objD (.dic (dicE e m))
abbrev eT0 : Unit → D := fun _ => .tuple []
abbrev eT1 {α : Type} (a : α → D) : α → D := fun p => .tuple [a p]
abbrev eT2 {α β : Type} (a : α → D) (b : β → D) : α × β → D := fun p => .tuple [a p.1, b p.2]
abbrev eT3 {α β γ : Type} (a : α → D) (b : β → D) (c : γ → D) : α × β × γ → D := fun p => .tuple [a p.1, b p.2.1, c p.2.2]
abbrev eT4 {α β γ δ : Type} (a : α → D) (b : β → D) (c : γ → D) (d : δ → D) : α × β × γ × δ → D := fun p => .tuple [a p.1, b p.2.1, c p.2.2.1, d p.2.2.2]
abbrev eT5 {α β γ δ ε : Type} (a : α → D) (b : β → D) (c : γ → D) (d : δ → D) (e : ε → D) : α × β × γ × δ × ε → D := fun p => .tuple [a p.1, b p.2.1, c p.2.2.1, d p.2.2.2.1, e p.2.2.2.2]
/-! operations on typed data -/
theorem o_eqI (i j : Int) : eqD (.int i) (.int j) = some (.bool (decide (i = j))) := by
  unfold eqD; rw [eqB_int]; rfl
theorem o_neI (i j : Int) : neD (.int i) (.int j) = some (.bool (!decide (i = j))) := by
  unfold neD; rw [eqB_int]; rfl
theorem o_eqS (i j : Str) : eqD (.str i) (.str j) = some (.bool (i == j)) := rfl
theorem o_neS (i j : Str) : neD (.str i) (.str j) = some (.bool (!(i == j))) := rfl
theorem o_eqB (i j : Bool) : eqD (.bool i) (.bool j) = some (.bool (i == j)) := by
  unfold eqD; rw [eqB_bool]; rfl
theorem o_neB (i j : Bool) : neD (.bool i) (.bool j) = some (.bool (!(i == j))) := by
  unfold neD; rw [eqB_bool]; rfl
theorem o_eqX (a b : D) : eqD a b = (eqB a b).map .bool := rfl
theorem o_neX (a b : D) : neD a b = ((eqB a b).map fun k => !k).map .bool := by
  unfold neD; cases eqB a b <;> rfl
/-- two things of one type: alike just where they are the same -/
structure EqE {α : Type} (n : Nat) (e : α → D) : Prop where
  cl : ∀ x, (e x).canLay0 = true
  dp : ∀ x, (e x).depth ≤ n
  eq : ∀ x y, PyData.eqv (e x) (e y) = true ↔ x = y
theorem eqE_I : EqE 0 eI := ⟨fun _ => rfl, fun _ => by simp [PyData.depth], fun x y => by simp [PyData.eqv]⟩
theorem eqE_B : EqE 0 eB := ⟨fun _ => rfl, fun _ => by simp [PyData.depth], fun x y => by simp [PyData.eqv]⟩
theorem eqE_N : EqE 0 eN := ⟨fun _ => rfl, fun _ => by simp [PyData.depth], fun x y => by simp [PyData.eqv]⟩
theorem eqE_O_I : EqE 0 (eO eI) := ⟨fun x => by cases x <;> rfl, fun x => by cases x <;> simp [eO, PyData.depth], fun x y => by cases x <;> cases y <;> simp [eO, PyData.eqv]⟩
section
variable {α β γ δ : Type} {n : Nat} {a : α → D} {b : β → D} {c : γ → D} {d : δ → D}
theorem EqE.all (h : EqE n a) : ∀ xs : List α, PyData.canLayAll0 (xs.map a) = true ∧ PyData.depthAll (xs.map a) ≤ n
  | [] => ⟨rfl, by simp [PyData.depthAll]⟩
  | x :: r => by
    obtain ⟨h1, h2⟩ := h.all r
    have := h.dp x
    exact ⟨by simp [PyData.canLayAll0, h.cl x, h1], by simp [PyData.depthAll]; omega⟩
theorem EqE.alls (h : EqE n a) : ∀ xs ys : List α, PyData.eqvAll (xs.map a) (ys.map a) = true ↔ xs = ys
  | [], [] => by simp [PyData.eqvAll]
  | [], _ :: _ => by simp [PyData.eqvAll]
  | _ :: _, [] => by simp [PyData.eqvAll]
  | x :: xs, y :: ys => by simp [PyData.eqvAll, h.eq, h.alls xs ys]
theorem EqE.V (h : EqE n a) : EqE (n + 1) (eV a) := ⟨fun x => by simp [PyData.canLay0, h.all], fun x => by have := (h.all x).2; simp [PyData.depth]; omega, fun x y => by simp [PyData.eqv, h.alls]⟩
theorem EqE.L (h : EqE n a) : EqE (n + 1) (eL a) := ⟨fun x => by simp [PyData.canLay0, h.all], fun x => by have := (h.all x).2; simp [PyData.depth]; omega, fun x y => by simp [PyData.eqv, h.alls]⟩
theorem eqE_T0 : EqE 1 eT0 := ⟨fun x => rfl, fun x => by simp [PyData.depth, PyData.depthAll], fun x y => by simp [PyData.eqv, PyData.eqvAll]⟩
theorem EqE.T1 (h : EqE n a) : EqE (n + 1) (eT1 a) := ⟨fun x => by simp [PyData.canLay0, PyData.canLayAll0, h.cl], fun x => by have := h.dp x; simp [PyData.depth, PyData.depthAll]; omega, fun x y => by simp [PyData.eqv, PyData.eqvAll, h.eq]⟩
theorem EqE.T2 (h : EqE n a) (h2 : EqE n b) : EqE (n + 1) (eT2 a b) := ⟨fun x => by simp [PyData.canLay0, PyData.canLayAll0, h.cl, h2.cl], fun x => by have := h.dp x.1; have := h2.dp x.2; simp [PyData.depth, PyData.depthAll]; omega, fun x y => by obtain ⟨x1, x2⟩ := x; obtain ⟨y1, y2⟩ := y; simp [PyData.eqv, PyData.eqvAll, h.eq, h2.eq]⟩
theorem EqE.T3 (h : EqE n a) (h2 : EqE n b) (h3 : EqE n c) : EqE (n + 1) (eT3 a b c) := ⟨fun x => by simp [PyData.canLay0, PyData.canLayAll0, h.cl, h2.cl, h3.cl], fun x => by have := h.dp x.1; have := h2.dp x.2.1; have := h3.dp x.2.2; simp [PyData.depth, PyData.depthAll]; omega, fun x y => by obtain ⟨x1, x2, x3⟩ := x; obtain ⟨y1, y2, y3⟩ := y; simp [PyData.eqv, PyData.eqvAll, h.eq, h2.eq, h3.eq]⟩
theorem EqE.T4 (h : EqE n a) (h2 : EqE n b) (h3 : EqE n c) (h4 : EqE n d) : EqE (n + 1) (eT4 a b c d) := ⟨fun x => by simp [PyData.canLay0, PyData.canLayAll0, h.cl, h2.cl, h3.cl, h4.cl], fun x => by have := h.dp x.1; have := h2.dp x.2.1; have := h3.dp x.2.2.1; have := h4.dp x.2.2.2; simp [PyData.depth, PyData.depthAll]; omega, fun x y => by obtain ⟨x1, x2, x3, x4⟩ := x; obtain ⟨y1, y2, y3, y4⟩ := y; simp [PyData.eqv, PyData.eqvAll, h.eq, h2.eq, h3.eq, h4.eq]⟩
theorem EqE.up {m : Nat} (h : EqE n a) (hm : n ≤ m) : EqE m a := ⟨h.cl, fun x => Nat.le_trans (h.dp x) hm, h.eq⟩
theorem EqE.eqB (h : EqE n a) (hn : n ≤ 64) (x y : α) : eqB (a x) (a y) = some (PyData.eqv (a x) (a y)) := by
  have s : ∀ x, SeqAt.shaped (a x) = true := fun x => by
    have := h.dp x
    have h1 : (a x).depth ≤ 64 := by omega
    simp [SeqAt.shaped, h.cl x, h1]
  unfold DL.eqB
  split
  · rename_i x' y' h1 h2; rw [h1, h2]; simp only [PyData.eqv]
  · rw [s x, s y]; rfl
theorem o_eqE [DecidableEq α] (h : EqE n a) (hn : n ≤ 64) (x y : α) : eqD (a x) (a y) = some (.bool (decide (x = y))) := by
  unfold eqD
  rw [h.eqB hn]
  have : PyData.eqv (a x) (a y) = decide (x = y) := by
    have := h.eq x y
    by_cases e : x = y
    · simp [e, (h.eq y y).2 rfl]
    · have h2 : ¬ PyData.eqv (a x) (a y) = true := fun z => e (this.1 z)
      simp [e]; simpa using h2
  rw [this]; rfl
theorem o_neE [DecidableEq α] (h : EqE n a) (hn : n ≤ 64) (x y : α) : neD (a x) (a y) = some (.bool (!decide (x = y))) := by
  have := o_eqE h hn x y
  unfold eqD at this
  unfold neD
  cases e : DL.eqB (a x) (a y) with
  | none => rw [e] at this; cases this
  | some z => rw [e] at this; simp at this; subst this; rfl
end
theorem o_isN {α : Type} (e : α → D) (h : ∀ x, isNo (e x) = false) (x : Option α) : isD (eO e x) .none = some (.bool x.isNone) := by
  cases x with
  | none => rfl
  | some y =>
    have := h y
    show isD (e y) .none = _
    unfold isD
    split <;> simp_all
theorem o_isnN {α : Type} (e : α → D) (h : ∀ x, isNo (e x) = false) (x : Option α) : isnD (eO e x) .none = some (.bool x.isSome) := by
  cases x with
  | none => rfl
  | some y =>
    have := h y
    show isnD (e y) .none = _
    unfold isnD
    split <;> simp_all
theorem o_isD (x : D) : isD x .none = some (.bool (isNo x)) := by cases x <;> rfl
theorem o_isnD (x : D) : isnD x .none = some (.bool (!isNo x)) := by cases x <;> rfl
def isBT : D → Bool → Option Bool
  | .bool a, b => some (decide (a = b))
  | _, _ => none
theorem o_isBT (x : D) (b : Bool) : isD x (.bool b) = (isBT x b).map .bool := by cases x <;> rfl
theorem o_isnBT (x : D) (b : Bool) : isnD x (.bool b) = ((isBT x b).map fun k => !k).map .bool := by cases x <;> rfl
theorem o_tcat {xs ys : List D} (h : Nat.ble (xs.length + ys.length) 1000 = true) : addD (.tuple xs) (.tuple ys) = some (.tuple (xs ++ ys)) := by
  have h1 : xs.length + ys.length ≤ sizeLine := Nat.le_trans (Nat.le_of_ble_eq_true h) (by decide)
  simp only [addD]; rw [if_pos h1]
def catT {α : Type} (xs ys : List α) : Option (List α) := if xs.length + ys.length ≤ sizeLine then some (xs ++ ys) else none
theorem o_catV {α : Type} (f : α → D) (xs ys : List α) : addD (eV f xs) (eV f ys) = (catT xs ys).map (eV f) := by
  simp only [eV, addD, catT, List.length_map]
  by_cases h : xs.length + ys.length ≤ sizeLine
  · rw [if_pos h, if_pos h, Option.map_some]; simp
  · rw [if_neg h, if_neg h, Option.map_none]
theorem o_catL {α : Type} (f : α → D) (xs ys : List α) : addD (eL f xs) (eL f ys) = (catT xs ys).map (eL f) := by
  simp only [eL, addD, catT, List.length_map]
  by_cases h : xs.length + ys.length ≤ sizeLine
  · rw [if_pos h, if_pos h, Option.map_some]; simp
  · rw [if_neg h, if_neg h, Option.map_none]
def mulT (i j : Int) : Option Int := if (smallI j || smallI i || decide (i.natAbs.log2 + j.natAbs.log2 < 1000000)) = true then some (i * j) else none
theorem o_mulT (i j : Int) : mulD (.int i) (.int j) = (mulT i j).map .int := by simp only [mulD, mulT]; generalize (smallI j || smallI i || decide (i.natAbs.log2 + j.natAbs.log2 < 1000000)) = z; cases z <;> rfl
def fdivT (i j : Int) : Option Int := if 0 < j ∧ j.natAbs.log2 < 9000 then some (i / j) else none
theorem o_fdivT (i j : Int) : fdivD (.int i) (.int j) = (fdivT i j).map .int := by
  simp only [fdivD, fdivT]
  by_cases h : 0 < j ∧ j.natAbs.log2 < 9000
  · rw [if_pos h, if_pos h, Option.map_some]
  · rw [if_neg h, if_neg h, Option.map_none]
theorem o_fdivC {i j : Int} (h : 0 < j ∧ j.natAbs.log2 < 9000) : fdivD (.int i) (.int j) = some (.int (i / j)) := by simp only [fdivD]; rw [if_pos h]
def modT (i j : Int) : Option Int := if 0 < j then some (i % j) else none
theorem o_modT (i j : Int) : modD (.int i) (.int j) = (modT i j).map .int := by
  simp only [modD, modT]
  by_cases h : 0 < j
  · rw [if_pos h, if_pos h, Option.map_some]
  · rw [if_neg h, if_neg h, Option.map_none]
def divmodT (i j : Int) : Option (Int × Int) := if 0 < j ∧ j < 1073741824 then some (i / j, i % j) else none
theorem o_divmodT (i j : Int) : divmodD [.int i, .int j] = (divmodT i j).map (eT2 eI eI) := by
  simp only [divmodD, divmodT]
  by_cases h : 0 < j ∧ j < 1073741824
  · rw [if_pos h, if_pos h, Option.map_some]
  · rw [if_neg h, if_neg h, Option.map_none]
theorem o_min2 (i j : Int) : min2D [.int i, .int j] = some (.int (min i j)) := by
  simp only [min2D]; congr 2; split <;> omega
theorem o_max2 (i j : Int) : max2D [.int i, .int j] = some (.int (max i j)) := by
  simp only [max2D]; congr 2; split <;> omega
theorem o_abs (i : Int) : absD [.int i] = some (.int (i.natAbs : Int)) := by
  simp only [absD]; congr 2; split <;> omega
theorem o_lenL {α : Type} (f : α → D) (xs : List α) : lenD [eL f xs] = some (.int (xs.length : Int)) := by simp [lenD]
theorem o_lenV {α : Type} (f : α → D) (xs : List α) : lenD [eV f xs] = some (.int (xs.length : Int)) := by simp [lenD]
theorem o_lenK {α : Type} (f : α → D) (xs : List (Int × α)) : lenD [eK f xs] = some (.int (xs.length : Int)) := by simp [lenD, eK, objD, dicE]
def lenT : D → Option Int
  | .list xs => some xs.length
  | .tuple xs => some xs.length
  | .dict xs => some xs.length
  | .str x => if x.length ≤ sizeLine then some x.length else none
  | _ => none
theorem o_lenD (d : D) : lenD [d] = (lenT d).map .int := by
  cases d <;> try rfl
  rename_i x; simp only [lenD, lenT]
  by_cases h : x.length ≤ sizeLine
  · rw [if_pos h, if_pos h, Option.map_some]
  · rw [if_neg h, if_neg h, Option.map_none]
theorem o_sum (xs : List Int) : sumD [eL eI xs] = some (.int xs.sum) := by
  simp only [sumD, eL]; rw [show xs.map eI = intl xs from rfl, intsOf_ints]; rfl
theorem o_all (xs : List Bool) : allBD [eL eB xs] = some (.bool (xs.all id)) := by
  simp only [allBD, eL]; rw [show xs.map eB = bls xs from rfl, blsOf_bls]; rfl
theorem o_any (xs : List Bool) : anyBD [eL eB xs] = some (.bool (xs.any id)) := by
  simp only [anyBD, eL]; rw [show xs.map eB = bls xs from rfl, blsOf_bls]; rfl
theorem atI_map {α : Type} (f : α → D) (xs : List α) (i : Int) : atI (xs.map f) i = (atI xs i).map f := by
  unfold atI
  rw [List.length_map]
  cases ixN xs.length i with
  | none => rfl
  | some j => simp
theorem o_ixL {α : Type} (f : α → D) (xs : List α) (i : Int) : ixD (eL f xs) (.int i) = (atI xs i).map f := atI_map f xs i
theorem o_ixV {α : Type} (f : α → D) (xs : List α) (i : Int) : ixD (eV f xs) (.int i) = (atI xs i).map f := atI_map f xs i
/-- keys of any kind: whole numbers alone -/
def keyI : D → Option Int
  | .int i => some i
  | _ => none
theorem keyI_ok {d : D} {i : Int} (h : keyI d = some i) : d = .int i := by
  cases d <;> simp [keyI] at h
  rw [h]
def atX {α : Type} (xs : List α) : D → Option α
  | .int i => atI xs i
  | _ => none
theorem o_ixXL {α : Type} (f : α → D) (xs : List α) (d : D) : ixD (eL f xs) d = (atX xs d).map f := by
  cases d <;> first | exact atI_map f xs _ | rfl
theorem o_ixXV {α : Type} (f : α → D) (xs : List α) (d : D) : ixD (eV f xs) d = (atX xs d).map f := by
  cases d <;> first | exact atI_map f xs _ | rfl
def min2T : D → D → Option Int
  | .int i, .int j => some (min i j)
  | _, _ => none
theorem o_min2T (a b : D) : min2D [a, b] = (min2T a b).map .int := by
  cases a <;> cases b <;> first | exact o_min2 _ _ | rfl
def max2T : D → D → Option Int
  | .int i, .int j => some (max i j)
  | _, _ => none
theorem o_max2T (a b : D) : max2D [a, b] = (max2T a b).map .int := by
  cases a <;> cases b <;> first | exact o_max2 _ _ | rfl
def getT {α : Type} (m : List (Int × α)) (k : Int) : Option α := (m.find? fun p => decide (p.1 = k)).map (·.2)
theorem dget_cons (d : D × D) (r : List (D × D)) (k : Key) : dget (d :: r) k = if keyOf d.1 = some k then some d.2 else dget r k := by
  unfold dget
  rw [List.find?_cons]
  by_cases h : keyOf d.1 = some k
  · simp [h]
  · simp [h]
theorem getT_cons {α : Type} (p : Int × α) (r : List (Int × α)) (k : Int) : getT (p :: r) k = if p.1 = k then some p.2 else getT r k := by
  unfold getT
  rw [List.find?_cons]
  by_cases h : p.1 = k
  · simp [h]
  · simp [h]
theorem dget_E {α : Type} (f : α → D) (m : List (Int × α)) (k : Int) : dget ((dicE f m).map fun p => (keyD p.1, p.2)) (.inl k) = (getT m k).map f := by
  induction m with
  | nil => rfl
  | cons p r ih =>
    rw [getT_cons]
    show dget ((PyData.int p.1, f p.2) :: _) (.inl k) = _
    rw [dget_cons]
    by_cases h : p.1 = k
    · rw [if_pos h, if_pos (by simp [keyOf, h])]; rfl
    · rw [if_neg h, if_neg (by simp [keyOf, h])]; exact ih
theorem o_ixK {α : Type} (f : α → D) (m : List (Int × α)) (k : Int) : ixD (eK f m) (.int k) = (getT m k).map f := by
  show ((keyOf (.int k)).bind (dget _)) = _
  exact dget_E f m k
theorem o_slL {α : Type} (f : α → D) (xs : List α) (lo hi : Option Int) : slD lo hi (eL f xs) = some (eL f (cutD xs lo hi)) := by simp [slD, eL, cutD_map]
theorem o_slV {α : Type} (f : α → D) (xs : List α) (lo hi : Option Int) : slD lo hi (eV f xs) = some (eV f (cutD xs lo hi)) := by simp [slD, eV, cutD_map]
theorem o_revL {α : Type} (f : α → D) (xs : List α) : revD (eL f xs) = some (eL f xs.reverse) := by simp [revD, eL]
theorem o_revV {α : Type} (f : α → D) (xs : List α) : revD (eV f xs) = some (eV f xs.reverse) := by simp [revD, eV]
def getX {α : Type} (m : List (Int × α)) (d : D) : Option α := (keyI d).bind (getT m)
theorem o_ixKX {α : Type} (f : α → D) (m : List (Int × α)) (d : D) : ∀ a, getX m d = some a → ixD (eK f m) d = some (f a) := fun a h => by
  cases hk : keyI d with
  | none => simp [getX, hk] at h
  | some i =>
    rw [keyI_ok hk, o_ixK]
    simp [getX, hk] at h
    rw [h]; rfl
def inX {α : Type} (m : List (Int × α)) (d : D) : Option Bool := (keyI d).map fun i => (getT m i).isSome
theorem flat_ints (xs : List Int) : (xs.map eI).all flatD = true := by simp [flatD]
theorem any_flatI (x : Int) : ∀ xs : List Int, ((xs.map eI).any fun y => flatEq y (.int x)) = decide (x ∈ xs)
  | [] => by simp
  | y :: ys => by
    have := any_flatI x ys
    rw [List.map_cons, List.any_cons, this]
    by_cases h : y = x
    · simp [flatEq, h]
    · have : x ≠ y := fun e => h e.symm
      simp [flatEq, h, this]
theorem o_inL (x : Int) (xs : List Int) : inD (.int x) (eL eI xs) = some (.bool (decide (x ∈ xs))) := by
  simp only [inD, inB, eL, flat_ints, flatD, Bool.and_self, if_true, any_flatI, Option.map]
theorem o_inV (x : Int) (xs : List Int) : inD (.int x) (eV eI xs) = some (.bool (decide (x ∈ xs))) := by
  simp only [inD, inB, eV, flat_ints, flatD, Bool.and_self, if_true, any_flatI, Option.map]
theorem o_ninL (x : Int) (xs : List Int) : ninD (.int x) (eL eI xs) = some (.bool (!decide (x ∈ xs))) := by
  simp only [ninD, inB, eL, flat_ints, flatD, Bool.and_self, if_true, any_flatI, Option.map]
theorem o_ninV (x : Int) (xs : List Int) : ninD (.int x) (eV eI xs) = some (.bool (!decide (x ∈ xs))) := by
  simp only [ninD, inB, eV, flat_ints, flatD, Bool.and_self, if_true, any_flatI, Option.map]
theorem o_inK {α : Type} (f : α → D) (x : Int) (m : List (Int × α)) : inD (.int x) (eK f m) = some (.bool (getT m x).isSome) := by
  show ((keyOf (.int x)).map fun k => (dget _ k).isSome).map PyData.bool = _
  simp only [keyOf, Option.map, dget_E]
  cases getT m x <;> rfl
theorem o_ninK {α : Type} (f : α → D) (x : Int) (m : List (Int × α)) : ninD (.int x) (eK f m) = some (.bool (!(getT m x).isSome)) := by
  show ((keyOf (.int x)).map fun k => (dget _ k).isSome).map (fun k => PyData.bool !k) = _
  simp only [keyOf, Option.map, dget_E]
  cases getT m x <;> rfl
theorem o_inKX {α : Type} (f : α → D) (d : D) (m : List (Int × α)) : ∀ a, inX m d = some a → inD d (eK f m) = some (eB a) := fun a h => by
  cases hk : keyI d with
  | none => simp [inX, hk] at h
  | some i =>
    rw [keyI_ok hk, o_inK]
    simp [inX, hk] at h
    rw [h]
theorem o_ninKX {α : Type} (f : α → D) (d : D) (m : List (Int × α)) : ∀ a, (inX m d).map (fun k => !k) = some a → ninD d (eK f m) = some (eB a) := fun a h => by
  cases hk : keyI d with
  | none => simp [inX, hk] at h
  | some i =>
    rw [keyI_ok hk, o_ninK]
    simp only [inX, hk, Option.map] at h
    cases h; rfl
theorem flat_strs (xs : List Str) : (xs.map eS).all flatD = true := by simp [flatD]
theorem any_flatS (x : Str) : ∀ xs : List Str, ((xs.map eS).any fun y => flatEq y (.str x)) = xs.any fun y => y == x
  | [] => rfl
  | y :: ys => by rw [List.map_cons, List.any_cons, any_flatS x ys]; rfl
theorem o_inVS (x : Str) (xs : List Str) : inD (.str x) (eV eS xs) = some (.bool (xs.any fun y => y == x)) := by
  simp only [inD, inB, eV, flat_strs, flatD, Bool.and_self, if_true, any_flatS, Option.map]
theorem o_inLS (x : Str) (xs : List Str) : inD (.str x) (eL eS xs) = some (.bool (xs.any fun y => y == x)) := by
  simp only [inD, inB, eL, flat_strs, flatD, Bool.and_self, if_true, any_flatS, Option.map]
theorem o_inX (a b : D) : inD a b = (inB a b).map .bool := rfl
theorem o_ninX (a b : D) : ninD a b = ((inB a b).map fun k => !k).map .bool := by unfold ninD; cases inB a b <;> rfl
theorem map_id' (o : Option D) : o = o.map eD := by cases o <;> rfl
/-- ordering of things of any kind -/
def cmpT (p : Int → Int → Bool) : D → D → Option Bool
  | .int i, .int j => some (p i j)
  | _, _ => none
theorem o_cmpT (p : Int → Int → Bool) (a b : D) : cmpD p a b = (cmpT p a b).map .bool := by cases a <;> cases b <;> rfl
def truT (d : D) : Option Bool := truthD d
/-! unpacking a thing of any kind -/
def un2 : D → Option (D × D)
  | .tuple [a, b] => some (a, b)
  | _ => none
def un3 : D → Option (D × D × D)
  | .tuple [a, b, c] => some (a, b, c)
  | _ => none
def un4 : D → Option (D × D × D × D)
  | .tuple [a, b, c, d] => some (a, b, c, d)
  | _ => none
section
variable {β : Type} {Γ : Gx β} {A : AS} {κ : AS → Q β → Prop}
theorem cg_un {α : Type} {g : Tg} {d : D} {o : Option α} {k : α → Q β} (f : α → D) (ho : ∀ a, o = some a → d = f a) (h : ∀ a, CG g (f a) A (k a) κ Γ) : CG g d A ((Q.of o).bind k) κ Γ := by
  cases o with
  | none => exact fun ρ S ρ0 k' E hc => trivial
  | some a => rw [ho a rfl]; exact h a
theorem un2_ok {d : D} : ∀ a, un2 d = some a → d = eT2 eD eD a := fun a h => by
  unfold un2 at h; split at h
  · cases h; rfl
  · cases h
theorem un3_ok {d : D} : ∀ a, un3 d = some a → d = eT3 eD eD eD a := fun a h => by
  unfold un3 at h; split at h
  · cases h; rfl
  · cases h
theorem un4_ok {d : D} : ∀ a, un4 d = some a → d = eT4 eD eD eD eD a := fun a h => by
  unfold un4 at h; split at h
  · cases h; rfl
  · cases h
end
/-- going through a thing of any kind -/
def itT : D → Option (List D)
  | .list xs => some xs
  | .tuple xs => some xs
  | _ => none
section
variable {β : Type} {Γ : Gx β} {A : AS} {t : Q β}
theorem ci_seqD {e : Ex} {κ : List D → AS → Q β → Prop} (h : CE e A t (fun rv B t' => ∃ d k, rv = .dat d ∧ t' = (Q.of (itT d)).bind k ∧ ∀ xs, κ (List.map eD xs) B (k xs)) Γ) : CI (itSeq e) A t κ Γ := fun ρ S k E hc => by
  simp only [itSeq, bind_st]
  refine h ρ S _ E fun rv v B S' t' h1 E1 q1 => ?_
  obtain ⟨d, k2, rfl, rfl, hk⟩ := h1
  cases q1
  cases d with
  | list xs => have := hk xs; rw [show List.map eD xs = xs from by simp [eD]] at this; exact hc _ _ _ _ this E1
  | tuple xs => have := hk xs; rw [show List.map eD xs = xs from by simp [eD]] at this; exact hc _ _ _ _ this E1
  | _ => trivial
theorem fin_of' {α : Type} {o : Option D} {o' : Option α} {k : α → Q β} {κ : RV → AS → Q β → Prop} (f : α → D) (h : o = o'.map f) (hk : ∀ a, κ (.dat (f a)) A (k a)) : Fin o A ((Q.of o').bind k) κ := fin_of f h hk
end
def zipDT : D → D → Option (List (D × D))
  | .list ds, .list es => some (ds.zip es)
  | .tuple ds, .tuple es => some (ds.zip es)
  | .tuple ds, .list es => some (ds.zip es)
  | _, _ => none
theorem zip_D (ds es : List D) : zipD ds es = (ds.zip es).map (eT2 eD eD) := by
  have := zip_T eD eD ds es
  simpa [eD] using this
theorem keys_T {α : Type} (f : α → D) (m : List (Int × α)) : ((dicE f m).map fun p => (keyD p.1, p.2)).map (·.1) = (m.map fun p => p.1).map eI := by
  simp [dicE, keyD, Function.comp_def]
theorem ci_zipD {β : Type} {Γ : Gx β} {A : AS} {t : Q β} {f : La} {κ : List D → AS → Q β → Prop} (h : CA f A t (fun rvs B t' => ∃ d e k, rvs = [.dat d, .dat e] ∧ t' = (Q.of (zipDT d e)).bind k ∧ ∀ xs, κ (List.map (eT2 eD eD) xs) B (k xs)) Γ) : CI (itZipX f) A t κ Γ := fun ρ S k E hc => by
  simp only [itZipX, bind_st]
  refine h ρ S _ E fun rvs vs B S' t' h1 E1 q1 _ => ?_
  obtain ⟨d, e, k2, rfl, rfl, hk⟩ := h1
  obtain ⟨v, w, rfl, q, q'⟩ := q1.two
  cases q; cases q'
  have hh : ∀ ds es, zipDT d e = some (ds.zip es) → Ref Γ ((R.ok (zipD ds es) S').st ρ k) ((Q.of (zipDT d e)).bind k2) := fun ds es h => by
    rw [h, zip_D]; exact hc _ _ _ _ (hk _) E1
  cases d with
  | list ds => cases e with
    | list es => exact hh ds es rfl
    | _ => trivial
  | tuple ds => cases e with
    | list es => exact hh ds es rfl
    | tuple es => exact hh ds es rfl
    | _ => trivial
  | _ => cases e <;> trivial
theorem leB {a b : Nat} (h : Nat.ble a b = true) : a ≤ b := Nat.le_of_ble_eq_true h
section
variable {β : Type} {Γ : Gx β} {A : AS} {t : Q β}
theorem ce_chainQ {op op' : D → D → Option D} {fa fb fc : Ex} {κ : RV → AS → Q β → Prop}
    (h : CE fa A t (fun r1 A1 t1 => CE fb A1 t1 (fun r2 A2 t2 => ∃ (d1 d2 : D) (o' : Option Bool) (k : Bool → Q β), r1 = .dat d1 ∧ r2 = .dat d2 ∧ op d1 d2 = o'.map .bool ∧ t2 = (Q.of o').bind k ∧ ∀ p, (p = true → CE fc A2 (k p) (fun r3 A3 t3 => ∃ d3, r3 = .dat d3 ∧ Fin (op' d2 d3) A3 t3 κ) Γ) ∧ (p = false → κ (.dat (.bool false)) A2 (k p))) Γ) Γ) : CE (eChain op op' fa fb fc) A t κ Γ := fun ρ S k E hc => by
  simp only [eChain, bind_st]
  refine h ρ S _ E fun r1 v1 B1 S1 t1 h1 E1 q1 => ?_
  refine h1 ρ S1 _ E1 fun r2 v2 B2 S2 t2 h2 E2 q2 => ?_
  obtain ⟨d1, d2, o', k2, rfl, rfl, ho, rfl, hp⟩ := h2
  cases q1; cases q2
  cases o' with
  | none => trivial
  | some p =>
    have e2 : op2 op (.d d1) (.d d2) S2 = .ok (.d (.bool p)) S2 := by simp only [op2, look, Option.bind, ho, ofO, Option.map]
    rw [e2]
    cases p with
    | false => exact hc _ _ _ _ _ ((hp false).2 rfl) E2 rfl
    | true =>
      show Ref Γ (((fc ρ S2).bind fun x S4 => op2 op' (.d d2) x S4).st ρ k) (k2 true)
      rw [bind_st]
      refine (hp true).1 rfl ρ S2 _ E2 fun r3 v3 B3 S3 t3 h3 E3 q3 => ?_
      obtain ⟨d3, rfl, hf⟩ := h3
      cases q3
      exact ref_ofO E3 hf hc
theorem ci_enumD {f : La} {κ : List D → AS → Q β → Prop} (h : CA f A t (fun rvs B t' => ∃ d k, rvs = [.dat d] ∧ t' = (Q.of (itT d)).bind k ∧ ∀ xs, κ (enumD 0 (List.map eD xs)) B (k xs)) Γ) : CI (itEnum f) A t κ Γ := fun ρ S k E hc => by
  simp only [itEnum, bind_st]
  refine h ρ S _ E fun rvs vs B S' t' h1 E1 q1 _ => ?_
  obtain ⟨d, k2, rfl, rfl, hk⟩ := h1
  obtain ⟨v, rfl, q⟩ := q1.one
  cases q
  have hm : ∀ xs : List D, List.map eD xs = xs := fun xs => by simp [eD]
  cases d with
  | list xs => have := hk xs; rw [hm] at this; exact hc _ _ _ _ this E1
  | tuple xs => have := hk xs; rw [hm] at this; exact hc _ _ _ _ this E1
  | _ => trivial
theorem cb_putDX {α : Type} {i : Nat} {ei e : Ex} {κ : AS → Q β → Prop} (f : α → D)
    (h : CE e A t (fun rv A1 t1 => IsOb A1 i ∧ CE ei A1 t1 (fun rj B t' => ∃ (d : D) (m : List (Int × α)) (x : α) (sv : SV) (k : Int → Unit → Q β), rj = .dat d ∧ rv = .dat (f x) ∧ Ob B i (.dic (dicE f m)) sv ∧ t' = (Q.of (keyI d)).bind (fun j => (Q.of (roomT m.length)).bind (k j)) ∧ ∀ j, κ (B.set i (some (sv.wo (.dic (dicE f (putT m j x)))))) (k j ())) Γ) Γ) :
    CB (sPut setD (eVar i) ei e) A t κ Γ := fun ρ S k E hc => by
  simp only [sPut, st_fl]
  refine h ρ S _ E fun rv v A1 S1 t1 h1 E1 q1 => ?_
  obtain ⟨n, sv0, o0, g0, g1, g2, g3⟩ := h1.1.at E1
  rw [eVar_st g1]
  refine h1.2 ρ S1 _ E1 fun rj v2 B S' t' h2 E2 q2 => ?_
  obtain ⟨d, m, x, sv, k2, rfl, rfl, ho, rfl, hk⟩ := h2
  cases q1; cases q2
  obtain ⟨m', e0, e1, e2⟩ := ho.get E2
  rw [g1] at e1; cases e1
  cases hd : keyI d with
  | none => trivial
  | some j =>
    cases keyI_ok hd
    have hl : (dicE f m).length = m.length := by simp [dicE]
    simp only [Q.of_some, Q.ok_bind]
    unfold roomT
    by_cases hz : m.length < sizeLine
    · rw [if_pos hz]
      simp only [setD, e2, keyOf, hl, hz, if_true, R.st, R.fl, Q.of_some, Q.ok_bind]
      refine hc _ _ _ _ (hk j) ?_
      rw [putKD_E]
      exact E2.setO _ e0 g1
    · rw [if_neg hz]; trivial
/-- a + b as a new list -/
theorem ce_catM {α : Type} {e1 e2 : Ex} {κ : RV → AS → Q β → Prop} (f : α → D)
    (h : CE e1 A t (fun r1 A1 t1 => CE e2 A1 t1 (fun r2 A2 t2 => ∃ (xs ys : List α) (k : List α → Q β), Lk A2 r1 (eL f xs) ∧ Lk A2 r2 (eL f ys) ∧ t2 = (Q.of (catT xs ys)).bind k ∧ ∀ zs, κ (.new (.lst (zs.map f))) A2 (k zs)) Γ) Γ) : CE (eCatM e1 e2) A t κ Γ := fun ρ S k E hc => by
  simp only [eCatM, bind_st]
  refine h ρ S _ E fun r1 v1 B1 S1 t1 h1 E1 q1 => ?_
  refine h1 ρ S1 _ E1 fun r2 v2 B2 S2 t2 h2 E2 q2 => ?_
  obtain ⟨xs, ys, k2, l1, l2, rfl, hk⟩ := h2
  simp only [Lk.look E2 (q1.one l1.r) l1, Lk.look E2 (q2.one l2.r) l2, Option.bind, List.length_map, catT]
  by_cases hz : xs.length + ys.length ≤ sizeLine
  · rw [if_pos hz, if_pos hz]
    have := hk (xs ++ ys)
    rw [List.map_append] at this
    exact hc _ _ _ _ _ this (E2.grow _) (vr_new E2 _)
  · rw [if_neg hz, if_neg hz]; trivial
theorem ce_newOf {e : Ex} {κ : RV → AS → Q β → Prop} (h : CE e A t (fun r B t' => ∃ ds, (LkR B r (.list ds) ∨ LkR B r (.tuple ds)) ∧ κ (.new (.lst ds)) B t') Γ) : CE (eNewOf e) A t κ Γ := fun ρ S k E hc => by
  simp only [eNewOf, bind_st]
  refine h ρ S _ E fun r1 v1 B S1 t1 h1 E1 q1 => ?_
  obtain ⟨ds, l | l, hk⟩ := h1
  · simp only [l.look E1 (q1.one l), Option.bind, listD, newL, R.st]
    exact hc _ _ _ _ _ hk (E1.grow _) (vr_new E1 _)
  · simp only [l.look E1 (q1.one l), Option.bind, listD, newL, R.st]
    exact hc _ _ _ _ _ hk (E1.grow _) (vr_new E1 _)
end
theorem pe_p384 {A : AS} : PE1 (eBin mulD (eBin mulD (eBin mulD (eBin mulD (eBin mulD (eBin powD (eC (.int 10)) (eC (.int 64))) (eBin powD (eC (.int 10)) (eC (.int 64)))) (eBin powD (eC (.int 10)) (eC (.int 64)))) (eBin powD (eC (.int 10)) (eC (.int 64)))) (eBin powD (eC (.int 10)) (eC (.int 64)))) (eBin powD (eC (.int 10)) (eC (.int 64)))) A (.int P384) :=
  have p : PE1 (eBin powD (eC (.int 10)) (eC (.int 64))) A (.int P64) := pe_bin (PE1.pl pe_c) (PE1.pl pe_c) pw64
  pe_bin (PE1.pl (pe_bin (PE1.pl (pe_bin (PE1.pl (pe_bin (PE1.pl (pe_bin (PE1.pl p) (PE1.pl p) ml128)) (PE1.pl p) ml192)) (PE1.pl p) ml256)) (PE1.pl p) ml320)) (PE1.pl p) ml384
theorem cl_fold0 {β α σ : Type} {Γ : Gx β} {tg : Tg} {g : Blk} {body : α → σ → Q σ} (f : α → D) (AL : σ → AS)
    (hb : ∀ x s, CG tg (f x) (AL s) (body x s) (fun B t' => CB g B t' (fun C t'' => ∃ s', t'' = .ok s' ∧ Weak C (AL s')) (Gb ⟨(Gj1 Γ AL).G, fun _ _ => False⟩ AL)) (Gb ⟨(Gj1 Γ AL).G, fun _ _ => False⟩ AL))
    {ds : List D} {xs : List α} {s0 : σ} {A : AS} (hd : ds = xs.map f) (hw : Weak A (AL s0)) : CB (forL tg g ds) A (foldQ xs s0 body) (fun B t => ∃ s, t = .ok s ∧ Weak B (AL s)) ⟨(Gj1 Γ AL).G, fun _ _ => False⟩ := by
  have := cl_fold (Γ := (⟨(Gj1 Γ AL).G, fun _ _ => False⟩ : Gx σ)) (t2 := .ok) (κ := fun B t => ∃ s, t = .ok s ∧ Weak B (AL s)) f AL hb (fun s => ⟨s, rfl, Weak.refl _⟩) hd hw
  rwa [Q.bind_ok_id] at this
section
variable {β : Type} {Γ : Gx β} {A : AS} {t : Q β}
theorem cl_foldI {α σ : Type} {tg : Tg} {g : Blk} {body : α → σ → Q σ} {t2 : σ → Q β} {κ : AS → Q β → Prop} {ds : List D} {xs : List α} {s0 : σ} (f : α → D) (AL : σ → AS)
    (hb : ∀ x s, CG tg (f x) (AL s) (body x s) (fun B t' => CB g B t' (fun C t'' => ∃ s', t'' = .ok s' ∧ Weak C (AL s')) (Gb Γ AL)) (Gb Γ AL))
    (hk : ∀ s, κ (AL s) (t2 s)) (hd : ds = xs.map f) (hw : Weak A (AL s0)) : CB (forL tg g ds) A ((foldQ xs s0 body).bind t2) κ Γ := cl_fold f AL hb hk hd hw
theorem cl_forI {α σ ρr : Type} {tg : Tg} {g : Blk} {body : α → σ → Q (LF σ ρr)} {t2 : σ → Q β} {t3 : ρr → Q β} {κ : AS → Q β → Prop} {ds : List D} {xs : List α} {s0 : σ} (f : α → D) (AL : σ → AS) (GR : RV → AS → ρr → Prop)
    (hb : ∀ x s, CG tg (f x) (AL s) (body x s) (fun B t' => CB g B t' (fun C t'' => ∃ s', t'' = .ok (.nx s') ∧ Weak C (AL s')) (Glf Γ AL GR)) (Glf Γ AL GR))
    (hk : ∀ s, κ (AL s) (t2 s)) (hr : ∀ v B r, GR v B r → ∃ a, t3 r = .ok a ∧ Γ.G (.rt v B) a) (hd : ds = xs.map f) (hw : Weak A (AL s0)) : CB (forL tg g ds) A ((forQ xs s0 body).lf t2 t3) κ Γ := cl_for f AL GR hb hk hr hd hw
theorem cl_whileI {σ : Type} {te : Te} {g : Blk} {c : σ → Q Bool} {body : σ → Q σ} {t2 : σ → Q β} {κ : AS → Q β → Prop} {n : Nat} {s0 : σ} (AL : σ → AS)
    (hc' : ∀ s, CT te (AL s) (c s) (fun b B t' => ∃ b', t' = .ok b' ∧ b = b' ∧ Weak B (AL s)) (Gj Γ (fun b => .dat (.bool b)) (fun _ => AL s)))
    (hb : ∀ s, CB g (AL s) (body s) (fun C t'' => ∃ s', t'' = .ok s' ∧ Weak C (AL s')) (Gb Γ AL))
    (hk : ∀ s, κ (AL s) (t2 s)) (hw : Weak A (AL s0)) : CB (whileN te g n) A ((whileS c body n s0).bind t2) κ Γ := cl_while AL hc' hb hk hw
theorem cl_whileRI {σ ρr : Type} {te : Te} {g : Blk} {c : σ → Q Bool} {body : σ → Q (LF σ ρr)} {t2 : σ → Q β} {t3 : ρr → Q β} {κ : AS → Q β → Prop} {n : Nat} {s0 : σ} (AL : σ → AS) (GR : RV → AS → ρr → Prop)
    (hc' : ∀ s, CT te (AL s) (c s) (fun b B t' => ∃ b', t' = .ok b' ∧ b = b' ∧ Weak B (AL s)) (Gj Γ (fun b => .dat (.bool b)) (fun _ => AL s)))
    (hb : ∀ s, CB g (AL s) (body s) (fun C t'' => ∃ s', t'' = .ok (.nx s') ∧ Weak C (AL s')) (Glf Γ AL GR))
    (hk : ∀ s, κ (AL s) (t2 s)) (hr : ∀ v B r, GR v B r → ∃ a, t3 r = .ok a ∧ Γ.G (.rt v B) a) (hw : Weak A (AL s0)) : CB (whileN te g n) A ((whileQ c body n s0).lf t2 t3) κ Γ := cl_whileR AL GR hc' hb hk hr hw
theorem it_if {σ γ : Type} {z : Bool} {fe : Ex} {K : RV → AS → Q (Option γ × σ) → Prop} {AL : σ → AS} {Γ : Gx (Option γ × σ)} {t1 t2 : Q (Option γ × σ)} (h1 : z = true → CE fe A t1 K Γ) (h2 : z = false → ∃ s', t2 = .ok (none, s') ∧ Weak A (AL s')) :
    (z = true → CE fe A (if z = true then t1 else t2) K Γ) ∧ (z = false → ∃ s', (if z = true then t1 else t2) = .ok (none, s') ∧ Weak A (AL s')) :=
  ⟨fun h => by rw [if_pos h]; exact h1 h, fun h => by rw [if_neg (by rw [h]; decide)]; exact h2 h⟩
end
theorem np_n : NoPar [] := fun sv h => by simp at h
theorem np_d {d : D} {r : List SV} (h : NoPar r) : NoPar (.dat d :: r) := fun sv hs j o e => by
  simp only [List.mem_cons] at hs
  rcases hs with rfl | hs
  · cases e
  · exact h sv hs j o e
theorem np_o {x : O} {r : List SV} (h : NoPar r) : NoPar (.ob x :: r) := fun sv hs j o e => by
  simp only [List.mem_cons] at hs
  rcases hs with rfl | hs
  · cases e
  · exact h sv hs j o e
theorem np_s {x : List D} {r : List SV} (h : NoPar r) : NoPar (.scr x :: r) := fun sv hs j o e => by
  simp only [List.mem_cons] at hs
  rcases hs with rfl | hs
  · cases e
  · exact h sv hs j o e
theorem np_e {x : Option XV} {r : List SV} (h : NoPar r) : NoPar (.er x :: r) := fun sv hs j o e => by
  simp only [List.mem_cons] at hs
  rcases hs with rfl | hs
  · cases e
  · exact h sv hs j o e
theorem hvs_nil {σ : Type} {AL : σ → AS} : ∀ v ∈ ([] : List Nat), ∀ s sv, (AL s)[v]? ≠ some (some sv) := fun v h => by simp at h
theorem hvs_cons {σ : Type} {AL : σ → AS} {v0 : Nat} {vs : List Nat} (h : ∀ s, (AL s)[v0]? = some none) (t : ∀ v ∈ vs, ∀ s sv, (AL s)[v]? ≠ some (some sv)) : ∀ v ∈ v0 :: vs, ∀ s sv, (AL s)[v]? ≠ some (some sv) := fun v hv s sv e => by
  simp only [List.mem_cons] at hv
  rcases hv with rfl | hv
  · rw [h s] at e; cases e
  · exact t v hv s sv e
theorem pe_cast {e : Ex} {A : AS} {d d' : D} (h : PE1 e A d) (he : d = d') : PE1 e A d' := he ▸ h
theorem rf_fnA {α : Type} {n : Nat} {b : Blk} {as : List SV} {t : Q α} {v : α → SV} {os : α → List O} (A0 : AS) (is : List Nat) (hp : NoPar as) (hm : (objs as).length = is.length) (hA : inA as 0 ++ List.replicate n none = A0)
    (h : CB b A0 t (fun B t' => ∃ a, t' = .ok a ∧ v a = .dat .none ∧ Prs is 0 B (os a)) (Gf is v os)) : RFn (mkFn n b) as t v os := rf_fn is hp hm (by rw [hA]; exact h)
theorem rf_law {F : Fn} (T : List Int → Q Bool) (h : ∀ ns, RFn F [.scr (ns.map .int)] (T ns) (fun r => .dat (.bool r)) (fun _ => [])) (ht : ∀ ns : List Int, ns.length ≤ 63 → T ns = .ok true) : LawTrue F := fun ns hl => by
  have := h ns
  rw [ht ns hl] at this
  obtain ⟨w, S', e1, e2, e3, e4⟩ := this.run
  cases (show w = .d (.bool true) from e4)
  exact ⟨S', e1⟩
end DL

namespace DL
open PySem L2
section
variable {β : Type} {Γ : Gx β} {A : AS} {t : Q β}
theorem cb_ext {α : Type} {i : Nat} {e : Ex} {ds0 : List D} {sv0 : SV} {κ : AS → Q β → Prop} (f : α → D) (hi : Ob A i (.lst ds0) sv0)
    (h : CE e A t (fun rv B t' => ∃ (xs ys : List α) (sv : SV) (k : List α → Q β), rv = .dat (eL f ys) ∧ Ob B i (.lst (xs.map f)) sv ∧ t' = (Q.of (catT xs ys)).bind k ∧ ∀ zs, κ (B.set i (some (sv.wo (.lst (zs.map f))))) (k zs)) Γ) :
    CB (sExpr (eExt (eVar i) e)) A t κ Γ := fun ρ S k E hc => by
  obtain ⟨n, g0, g1, g2⟩ := hi.get E
  have hl : isLst S (.loc n) = true := by simp only [isLst, g2]
  simp only [sExpr, st_fl, eExt, bind_st]
  rw [eVar_st g1, hl]
  show Ref Γ (((e ρ S).bind fun w S2 => extL (.loc n) w S2).st ρ _) t
  rw [bind_st]
  refine h ρ S _ E fun rv v B S' t' h1 E1 q1 => ?_
  obtain ⟨xs, ys, sv, k2, rfl, ho, rfl, hk⟩ := h1
  cases q1
  obtain ⟨m, e0, e1, e2⟩ := ho.get E1
  rw [g1] at e1; cases e1
  simp only [catT]
  by_cases hz : xs.length + ys.length ≤ sizeLine
  · rw [if_pos hz]
    simp only [extL, e2, List.length_map, hz, if_true, R.st, Q.of_some, Q.ok_bind]
    refine hc _ _ _ _ (hk _) ?_
    rw [← List.map_append]
    exact E1.setO _ e0 g1
  · rw [if_neg hz]; trivial
theorem erase_map {α : Type} (f : α → D) : ∀ (xs : List α) (n : Nat), (xs.map f).eraseIdx n = (xs.eraseIdx n).map f
  | [], n => by simp
  | x :: xs, 0 => rfl
  | x :: xs, n + 1 => by simp [erase_map f xs n]
def popT {α : Type} (xs : List α) (i : Int) : Option (α × List α) := if 0 ≤ i ∧ i < 1000000 then (xs[i.toNat]?).map fun y => (y, xs.eraseIdx i.toNat) else none
theorem ce_pop {α : Type} {i : Nat} {ei : Ex} {ds0 : List D} {sv0 : SV} {κ : RV → AS → Q β → Prop} (f : α → D) (hi : Ob A i (.lst ds0) sv0)
    (h : CE ei A t (fun rj B t' => ∃ (j : Int) (xs : List α) (sv : SV) (k : α × List α → Q β), rj = .dat (.int j) ∧ Ob B i (.lst (xs.map f)) sv ∧ t' = (Q.of (popT xs j)).bind k ∧ ∀ p, κ (.dat (f p.1)) (B.set i (some (sv.wo (.lst (p.2.map f))))) (k p)) Γ) :
    CE (ePop (eVar i) ei) A t κ Γ := fun ρ S k E hc => by
  obtain ⟨n, g0, g1, g2⟩ := hi.get E
  have hl : isLst S (.loc n) = true := by simp only [isLst, g2]
  simp only [ePop, bind_st]
  rw [eVar_st g1, hl]
  show Ref Γ (((ei ρ S).bind fun w S2 => popL (.loc n) w S2).st ρ _) t
  rw [bind_st]
  refine h ρ S _ E fun rv v B S' t' h1 E1 q1 => ?_
  obtain ⟨j, xs, sv, k2, rfl, ho, rfl, hk⟩ := h1
  cases q1
  obtain ⟨m, e0, e1, e2⟩ := ho.get E1
  rw [g1] at e1; cases e1
  simp only [popL, e2, popT]
  by_cases hz : 0 ≤ j ∧ j < 1000000
  · rw [if_pos hz, if_pos hz, List.getElem?_map]
    cases hx : xs[j.toNat]? with
    | none => trivial
    | some y =>
      simp only [Option.map, R.st, Q.of_some, Q.ok_bind]
      have hm : (xs.map f).eraseIdx j.toNat = (xs.eraseIdx j.toNat).map f := erase_map f xs _
      rw [hm]
      exact hc _ _ _ _ _ (hk (y, xs.eraseIdx j.toNat)) (E1.setO _ e0 g1) rfl
  · rw [if_neg hz, if_neg hz]; trivial
theorem ce_slM {α : Type} {e : Ex} {l h : Po} {κ : RV → AS → Q β → Prop} (f : α → D)
    (he : CE e A t (fun r1 A1 t1 => COp l A1 t1 (fun lo A2 t2 => COp h A2 t2 (fun hi A3 t3 => ∃ xs : List α, LkR A3 r1 (eL f xs) ∧ κ (.new (.lst ((cutD xs lo hi).map f))) A3 t3) Γ) Γ) Γ) : CE (eSlM e l h) A t κ Γ := fun ρ S k E hc => by
  simp only [eSlM, bind_st]
  refine he ρ S _ E fun r1 v1 B1 S1 t1 h1 E1 q1 => ?_
  refine h1 ρ S1 _ E1 fun lo B2 S2 t2 h2 E2 => ?_
  refine h2 ρ S2 _ E2 fun hi B3 S3 t3 h3 E3 => ?_
  obtain ⟨xs, l1, hk⟩ := h3
  simp only [LkR.look E3 (q1.one l1) l1, Option.bind, newL, R.st]
  rw [cutD_map]
  exact hc _ _ _ _ _ hk (E3.grow _) (vr_new E3 _)
theorem Env.fresh {ρ : Ev} {S : Sto} (E : Env A ρ S) {n : Nat} {o : O} (hS : S[n]? = some (some o)) (hn : ∀ (i : Nat) (sv : SV), A[i]? = some (some sv) → ρ[i]? ≠ some (some (.loc n))) {m j : Nat} (hm : m ≠ n) {o' : O} : ∀ (i : Nat) (sv : SV), (A.set j (some (.ob o')))[i]? = some (some sv) → (ρ.set j (some (.loc m)))[i]? ≠ some (some (.loc n)) := fun i sv hi he => by
  rcases getset he with ⟨rfl, e⟩ | ⟨q, he⟩
  · cases e; exact hm rfl
  · rcases getset hi with ⟨rfl, _⟩ | ⟨_, hi⟩
    · exact q rfl
    · exact hn i sv hi he
/-- a, b = x, y, both new objects, the second one of a call of data alone -/
theorem cb_par2N {i j : Nat} {e e2 : Ex} {κ : AS → Q β → Prop} (h : CE e A t (fun rv B t' => ∃ (o : O) (α : Type) (q : Q α) (o2 : α → O) (k : α → Q β), rv = .new o ∧ (∀ ρ S, Env B ρ S → ∀ a, q = .ok a → e2 ρ S = .ok (.loc S.length) (S ++ [some (o2 a)])) ∧ t' = q.noX.bind k ∧ ∀ a, κ ((B.set i (some (.ob o))).set j (some (.ob (o2 a)))) (k a)) Γ) : CB (sPar [i, j] (aCons e (aCons e2 aNil))) A t κ Γ := fun ρ S k E hc => by
  simp only [sPar, st_fl, aCons, bind_st]
  refine h ρ S _ E fun r1 v1 B1 S1 t1 h1 E1 q1 => ?_
  obtain ⟨o, α, q, o2, k2, rfl, h1, rfl, h3⟩ := h1
  cases q with
  | bad => trivial
  | exc x es => trivial
  | ok a =>
    have E2 := E1.grow (some (o2 a))
    simp only [h1 ρ S1 E1 a rfl, R.st, aNil, Q.ok_noX, Q.ok_bind]
    obtain ⟨n, rfl, hS, hn⟩ := q1
    have hlt := lt_of_get hS
    obtain ⟨m, hm, hSm, hnm⟩ := vr_new0 E1 (o2 a)
    cases hm
    have hS' : (S1 ++ [some (o2 a)])[n]? = some (some o) := by rw [List.getElem?_append_left hlt]; exact hS
    have E3 := E2.setN i n o hS' hn
    have E4 := E3.setN j S1.length (o2 a) hSm (E2.fresh hSm hnm (by omega))
    exact hc _ _ _ _ (h3 a) E4
theorem ref_rgM {ρ : Ev} {S : Sto} {i j : Int} {κ : RV → AS → Q β → Prop} {k' : Val → Sto → R Flow} {k : List Int → Q β} (E : Env A ρ S)
    (hc : ∀ rv v B S' t', κ rv B t' → Env B ρ S' → VR B ρ S' rv v → Ref Γ (k' v S') t') (hk : ∀ xs, κ (.new (.lst (xs.map .int))) A (k xs)) : Ref Γ ((rgM i j S).st ρ k') ((Q.of (rgT i j)).bind k) := by
  unfold rgM
  rw [rgI_T]
  cases rgT i j with
  | none => trivial
  | some xs => exact hc _ _ _ _ _ (hk xs) (E.grow _) (vr_new E _)
theorem ce_rgM1 {e : Ex} {κ : RV → AS → Q β → Prop} (h : CE e A t (fun rv B t' => ∃ j k, rv = .dat (.int j) ∧ t' = (Q.of (rgT 0 j)).bind k ∧ ∀ xs, κ (.new (.lst (xs.map .int))) B (k xs)) Γ) : CE (eRgM1 e) A t κ Γ := fun ρ S k E hc => by
  simp only [eRgM1, bind_st]
  refine h ρ S _ E fun r1 v1 B S1 t1 h1 E1 q1 => ?_
  obtain ⟨j, k2, rfl, rfl, hk⟩ := h1
  cases q1
  exact ref_rgM E1 hc hk
theorem ce_rgM2 {e1 e2 : Ex} {κ : RV → AS → Q β → Prop} (h : CE e1 A t (fun r1 A1 t1 => CE e2 A1 t1 (fun r2 B t' => ∃ i j k, r1 = .dat (.int i) ∧ r2 = .dat (.int j) ∧ t' = (Q.of (rgT i j)).bind k ∧ ∀ xs, κ (.new (.lst (xs.map .int))) B (k xs)) Γ) Γ) : CE (eRgM2 e1 e2) A t κ Γ := fun ρ S k E hc => by
  simp only [eRgM2, bind_st]
  refine h ρ S _ E fun r1 v1 B S1 t1 h1 E1 q1 => ?_
  refine h1 ρ S1 _ E1 fun r2 v2 B2 S2 t2 h2 E2 q2 => ?_
  obtain ⟨i, j, k2, rfl, rfl, rfl, hk⟩ := h2
  cases q1; cases q2
  exact ref_rgM E2 hc hk
def repT {α : Type} (xs : List α) (k : Int) : Option (List α) := if -1000000 ≤ k ∧ k ≤ 1000000 ∧ xs.length * k.toNat ≤ sizeLine then some (List.replicate k.toNat xs).flatten else none
theorem rep_map {α : Type} (f : α → D) (xs : List α) : ∀ n : Nat, (List.replicate n (xs.map f)).flatten = ((List.replicate n xs).flatten).map f
  | 0 => rfl
  | n + 1 => by rw [List.replicate_succ, List.replicate_succ, List.flatten_cons, List.flatten_cons, List.map_append, rep_map f xs n]
theorem ce_repM {α : Type} {e1 e2 : Ex} {κ : RV → AS → Q β → Prop} (f : α → D) (h : CE e1 A t (fun r1 A1 t1 => CE e2 A1 t1 (fun r2 B t' => ∃ xs i k, r1 = .dat (eL f xs) ∧ r2 = .dat (.int i) ∧ t' = (Q.of (repT xs i)).bind k ∧ ∀ ys, κ (.new (.lst (ys.map f))) B (k ys)) Γ) Γ) : CE (eRepM e1 e2) A t κ Γ := fun ρ S k E hc => by
  simp only [eRepM, bind_st]
  refine h ρ S _ E fun r1 v1 B S1 t1 h1 E1 q1 => ?_
  refine h1 ρ S1 _ E1 fun r2 v2 B2 S2 t2 h2 E2 q2 => ?_
  obtain ⟨xs, i, k2, rfl, rfl, rfl, hk⟩ := h2
  cases q1; cases q2
  simp only [repT, List.length_map]
  by_cases hz : -1000000 ≤ i ∧ i ≤ 1000000 ∧ xs.length * i.toNat ≤ sizeLine
  · rw [if_pos hz, if_pos hz, rep_map]
    exact hc _ _ _ _ _ (hk _) (E2.grow _) (vr_new E2 _)
  · rw [if_neg hz, if_neg hz]; trivial
/-- a thing or None, where it must be a thing -/
theorem ce_opt {α : Type} {e : Ex} {κ : RV → AS → Q β → Prop} (f : α → D) (h : CE e A t (fun rv B t' => ∃ (o : Option α) (k : α → Q β), rv = .dat (eO f o) ∧ t' = (Q.of o).bind k ∧ ∀ v, κ (.dat (f v)) B (k v)) Γ) : CE e A t κ Γ := fun ρ S k E hc => by
  refine h ρ S _ E fun r1 v1 B S1 t1 h1 E1 q1 => ?_
  obtain ⟨o, k2, rfl, rfl, hk⟩ := h1
  cases o with
  | none => trivial
  | some v => exact hc _ _ _ _ _ (hk v) E1 q1
end
end DL

namespace DL
open PySem L2
theorem o_max1L (xs : List Int) : max1D [eL eI xs] = (maxI xs).map .int := by
  simp only [max1D, eL]; rw [show xs.map eI = intl xs from rfl, intsOf_ints]; rfl
theorem o_max1V (xs : List Int) : max1D [eV eI xs] = (maxI xs).map .int := by
  simp only [max1D, eV]; rw [show xs.map eI = intl xs from rfl, intsOf_ints]; rfl
theorem o_min1L (xs : List Int) : min1D [eL eI xs] = (minI xs).map .int := by
  simp only [min1D, eL]; rw [show xs.map eI = intl xs from rfl, intsOf_ints]; rfl
theorem o_min1V (xs : List Int) : min1D [eV eI xs] = (minI xs).map .int := by
  simp only [min1D, eV]; rw [show xs.map eI = intl xs from rfl, intsOf_ints]; rfl
def max1X : D → Option Int
  | .list xs => (intsOf xs).bind maxI
  | .tuple xs => (intsOf xs).bind maxI
  | _ => none
def min1X : D → Option Int
  | .list xs => (intsOf xs).bind minI
  | .tuple xs => (intsOf xs).bind minI
  | _ => none
theorem o_max1X (a : D) : max1D [a] = (max1X a).map .int := by cases a <;> rfl
theorem o_min1X (a : D) : min1D [a] = (min1X a).map .int := by cases a <;> rfl
/-! range(i, j, c) -/
def istep (i c : Int) (n : Nat) : List Int := (List.range n).map fun k => i + (k : Nat) * c
@[irreducible] def rgT3 (i j c : Int) : Option (List Int) := if -1000000 ≤ i ∧ i ≤ 1000000 ∧ -1000000 ≤ j ∧ j ≤ 1000000 ∧ 1 ≤ c ∧ c ≤ 1000 then some (istep i c (Builtin.Range.rangeSize i j c).toNat) else none
theorem rgI3_T (i j c : Int) : rgI3 i j c = (rgT3 i j c).map fun xs => xs.map PyData.int := by
  unfold rgI3 rgT3
  split
  · simp [stepD, istep]
  · rfl
theorem rgT3_ok {i j c : Int} (h0 : -1000000 ≤ i) (h1 : i ≤ 1000000) (h2 : j ≤ 1000000) (h3 : -1000000 ≤ j) (h4 : 1 ≤ c) (h5 : c ≤ 1000) : rgT3 i j c = some (istep i c (Builtin.Range.rangeSize i j c).toNat) := by
  unfold rgT3; rw [if_pos (by omega)]
theorem mem_istep {i c x : Int} {n : Nat} (h : x ∈ istep i c n) : ∃ k : Nat, k < n ∧ x = i + k * c := by
  unfold istep at h
  obtain ⟨k, hk, rfl⟩ := List.mem_map.mp h
  exact ⟨k, List.mem_range.mp hk, rfl⟩
theorem mem_rgT3 {i j c x : Int} (h4 : 1 ≤ c) (h : x ∈ istep i c (Builtin.Range.rangeSize i j c).toNat) : i ≤ x ∧ x < j := by
  obtain ⟨k, hk, rfl⟩ := mem_istep h
  unfold Builtin.Range.rangeSize at hk
  rw [if_pos (by omega)] at hk
  split at hk
  · have h1 : (k : Int) ≤ (j - i - 1) / c := by omega
    have h2 : (k : Int) * c ≤ (j - i - 1) / c * c := Int.mul_le_mul_of_nonneg_right h1 (by omega)
    have h3 := Int.ediv_mul_le (j - i - 1) (show c ≠ 0 by omega)
    have h5 : 0 ≤ (k : Int) * c := Int.mul_nonneg (by omega) (by omega)
    omega
  · simp at hk
section
variable {β : Type} {Γ : Gx β} {A : AS} {t : Q β}
theorem VRs.three {ρ : Ev} {S : Sto} {r r' r'' : RV} {vs : List Val} (h : VRs A ρ S [r, r', r''] vs) : ∃ v v' v'', vs = [v, v', v''] ∧ VR A ρ S r v ∧ VR A ρ S r' v' ∧ VR A ρ S r'' v'' := by
  cases h with
  | cons h t => cases t with
    | cons h' t => cases t with
      | cons h'' t => cases t; exact ⟨_, _, _, rfl, h, h', h''⟩
theorem ci_r3 {f : La} {κ : List D → AS → Q β → Prop} (h : CA f A t (fun rvs B t' => ∃ i j c k, rvs = [.dat (.int i), .dat (.int j), .dat (.int c)] ∧ t' = (Q.of (rgT3 i j c)).bind k ∧ ∀ xs, κ (xs.map .int) B (k xs)) Γ) : CI (itR3p f) A t κ Γ := fun ρ S k E hc => by
  simp only [itR3p, bind_st]
  refine h ρ S _ E fun rvs vs B S' t' h1 E1 q1 _ => ?_
  obtain ⟨i, j, c, k2, rfl, rfl, hk⟩ := h1
  obtain ⟨v, w, u, rfl, q, q', q''⟩ := q1.three
  cases q; cases q'; cases q''
  simp only
  rw [rgI3_T]
  cases rgT3 i j c with
  | none => trivial
  | some xs => exact hc _ _ _ _ (hk xs) E1
end
end DL

namespace DL
open PySem L2
def dictT {α : Type} (xs : List (Int × α)) : List (Int × α) := xs.foldl (fun m p => putT m p.1 p.2) []
theorem prs_T {α : Type} (f : α → D) : ∀ (xs : List (Int × α)), prsOf (xs.map (eT2 eI f)) = some (dicE f xs)
  | [] => rfl
  | x :: r => by
    have := prs_T f r
    show (prsOf (r.map (eT2 eI f))).map _ = _
    rw [this]; rfl
theorem merge_T {α : Type} (f : α → D) : ∀ (xs m : List (Int × α)), mergeD (dicE f m) (dicE f xs) = dicE f (xs.foldl (fun m p => putT m p.1 p.2) m)
  | [], m => rfl
  | x :: r, m => by
    have := merge_T f r (putT m x.1 x.2)
    rw [← putKD_E] at this
    exact this
theorem o_dict {α : Type} (f : α → D) (xs : List (Int × α)) : dictD [eL (eT2 eI f) xs] = some (eK f (dictT xs)) := by
  simp only [dictD, eL]
  rw [prs_T]
  have := merge_T f xs []
  show some (PyData.dict ((mergeD (dicE f []) (dicE f xs)).map fun p => (keyD p.1, p.2))) = _
  rw [this]; rfl
section
variable {β : Type} {Γ : Gx β} {A : AS} {t : Q β}
theorem cb_at {g : Blk} {κ : AS → Q β → Prop} (B : AS) (h : A = B) (d : CB g B t κ Γ) : CB g A t κ Γ := h ▸ d
/-- an append whose outcome gets a name, and the slots behind it are told anew -/
theorem cb_appL {α : Type} {i : Nat} {e : Ex} {ds0 : List D} {sv0 : SV} {κ : AS → Q β → Prop} (f : α → D) (AL : List α → AS) (hi : Ob A i (.lst ds0) sv0)
    (h : CE e A t (fun rv B t' => ∃ (xs : List α) (x : α) (sv : SV) (k : List α → Q β), rv = .dat (f x) ∧ Ob B i (.lst (xs.map f)) sv ∧ t' = (Q.of (roomT xs.length)).bind (fun _ => (Q.ok (xs ++ [x])).bind k) ∧ (∀ ys, B.set i (some (sv.wo (.lst (ys.map f)))) = AL ys) ∧ ∀ ys, κ (AL ys) (k ys)) Γ) :
    CB (sExpr (eApp (eVar i) e)) A t κ Γ := cb_app f hi fun ρ S k E hc => h ρ S k E fun rv v B S' t' ⟨xs, x, sv, k2, h1, h2, h3, h5, h4⟩ E1 q1 =>
      hc _ _ _ _ _ ⟨xs, x, sv, fun _ => k2 (xs ++ [x]), h1, h2, by rw [h3]; simp only [Q.ok_bind], by rw [h5]; exact h4 _⟩ E1 q1
end
/-! tuples, as things of a type -/
section
variable {A : AS}
theorem pe_t2 {α γ : Type} {e1 e2 : Ex} {f1 : α → D} {f2 : γ → D} {a : α} {b : γ} (h1 : PE1 e1 A (f1 a)) (h2 : PE1 e2 A (f2 b)) : PE1 (eTup (aCons e1 (aCons e2 aNil))) A (eT2 f1 f2 (a, b)) := pe_tup (pa_cons h1 (pa_cons h2 pa_nil)) (leB rfl)
theorem pe_t3 {α γ δ : Type} {e1 e2 e3 : Ex} {f1 : α → D} {f2 : γ → D} {f3 : δ → D} {a : α} {b : γ} {c : δ} (h1 : PE1 e1 A (f1 a)) (h2 : PE1 e2 A (f2 b)) (h3 : PE1 e3 A (f3 c)) : PE1 (eTup (aCons e1 (aCons e2 (aCons e3 aNil)))) A (eT3 f1 f2 f3 (a, b, c)) := pe_tup (pa_cons h1 (pa_cons h2 (pa_cons h3 pa_nil))) (leB rfl)
theorem pe_t4 {α γ δ ε : Type} {e1 e2 e3 e4 : Ex} {f1 : α → D} {f2 : γ → D} {f3 : δ → D} {f4 : ε → D} {a : α} {b : γ} {c : δ} {d : ε} (h1 : PE1 e1 A (f1 a)) (h2 : PE1 e2 A (f2 b)) (h3 : PE1 e3 A (f3 c)) (h4 : PE1 e4 A (f4 d)) : PE1 (eTup (aCons e1 (aCons e2 (aCons e3 (aCons e4 aNil))))) A (eT4 f1 f2 f3 f4 (a, b, c, d)) := pe_tup (pa_cons h1 (pa_cons h2 (pa_cons h3 (pa_cons h4 pa_nil)))) (leB rfl)
def PVs {α : Type} (r : La) (A : AS) (f : α → D) (xs : List α) : Prop := PA1 r A (xs.map f) ∧ xs.length ≤ 900
theorem pv_nil {α : Type} {f : α → D} : PVs aNil A f [] := ⟨pa_nil, Nat.zero_le _⟩
theorem pv_1 {α : Type} {f : α → D} {e : Ex} {x : α} (h : PE1 e A (f x)) : PVs (aCons e aNil) A f [x] := ⟨pa_cons h pa_nil, leB rfl⟩
theorem pv_2 {α : Type} {f : α → D} {e e2 : Ex} {x y : α} (h : PE1 e A (f x)) (h2 : PE1 e2 A (f y)) : PVs (aCons e (aCons e2 aNil)) A f [x, y] := ⟨pa_cons h (pa_cons h2 pa_nil), leB rfl⟩
theorem pv_3 {α : Type} {f : α → D} {e e2 e3 : Ex} {x y z : α} (h : PE1 e A (f x)) (h2 : PE1 e2 A (f y)) (h3 : PE1 e3 A (f z)) : PVs (aCons e (aCons e2 (aCons e3 aNil))) A f [x, y, z] := ⟨pa_cons h (pa_cons h2 (pa_cons h3 pa_nil)), leB rfl⟩
theorem pv_4 {α : Type} {f : α → D} {e e2 e3 e4 : Ex} {x y z w : α} (h : PE1 e A (f x)) (h2 : PE1 e2 A (f y)) (h3 : PE1 e3 A (f z)) (h4 : PE1 e4 A (f w)) : PVs (aCons e (aCons e2 (aCons e3 (aCons e4 aNil)))) A f [x, y, z, w] := ⟨pa_cons h (pa_cons h2 (pa_cons h3 (pa_cons h4 pa_nil))), leB rfl⟩
theorem pe_v {α : Type} {f : α → D} {r : La} {xs : List α} (h : PVs r A f xs) : PE1 (eTup r) A (eV f xs) := pe_tup h.1 (by rw [List.length_map]; have := h.2; omega)
end
/-! data read back as a thing of a type -/
def unI : D → Option Int
  | .int i => some i
  | _ => none
def unB : D → Option Bool
  | .bool b => some b
  | _ => none
def unS : D → Option Str
  | .str x => some x
  | _ => none
def unM {α : Type} (u : D → Option α) : List D → Option (List α)
  | [] => some []
  | d :: r => (u d).bind fun a => (unM u r).map (a :: ·)
def unV {α : Type} (u : D → Option α) : D → Option (List α)
  | .tuple ds => unM u ds
  | _ => none
def unL {α : Type} (u : D → Option α) : D → Option (List α)
  | .list ds => unM u ds
  | _ => none
def unT2 {α γ : Type} (u : D → Option α) (v : D → Option γ) : D → Option (α × γ)
  | .tuple [a, b] => (u a).bind fun x => (v b).map fun y => (x, y)
  | _ => none
def unT3 {α γ δ : Type} (u : D → Option α) (v : D → Option γ) (w : D → Option δ) : D → Option (α × γ × δ)
  | .tuple [a, b, c] => (u a).bind fun x => (v b).bind fun y => (w c).map fun z => (x, y, z)
  | _ => none
def unT4 {α γ δ ε : Type} (u : D → Option α) (v : D → Option γ) (w : D → Option δ) (q : D → Option ε) : D → Option (α × γ × δ × ε)
  | .tuple [a, b, c, d] => (u a).bind fun x => (v b).bind fun y => (w c).bind fun z => (q d).map fun o => (x, y, z, o)
  | _ => none
def unD : D → Option D := some
def UnOk {α : Type} (u : D → Option α) (f : α → D) : Prop := ∀ d a, u d = some a → d = f a
theorem unI_ok : UnOk unI eI := fun d a h => by
  cases d <;> simp only [unI] at h <;> first | (cases h; rfl) | cases h
theorem unB_ok : UnOk unB eB := fun d a h => by
  cases d <;> simp only [unB] at h <;> first | (cases h; rfl) | cases h
theorem unS_ok : UnOk unS eS := fun d a h => by
  cases d <;> simp only [unS] at h <;> first | (cases h; rfl) | cases h
theorem unD_ok : UnOk unD eD := fun d a h => by cases h; rfl
theorem unM_ok {α : Type} {u : D → Option α} {f : α → D} (hu : UnOk u f) : ∀ ds as, unM u ds = some as → ds = as.map f
  | [], as, h => by cases h; rfl
  | d :: r, as, h => by
    obtain ⟨a, h1, h2⟩ := Option.bind_eq_some_iff.mp h
    obtain ⟨bs, h3, rfl⟩ := Option.map_eq_some_iff.mp h2
    rw [hu d a h1, unM_ok hu r bs h3]; rfl
theorem unV_ok {α : Type} {u : D → Option α} {f : α → D} (hu : UnOk u f) : UnOk (unV u) (eV f) := fun d a h => by
  cases d <;> simp only [unV] at h <;> first | (rw [unM_ok hu _ _ h]) | cases h
theorem unL_ok {α : Type} {u : D → Option α} {f : α → D} (hu : UnOk u f) : UnOk (unL u) (eL f) := fun d a h => by
  cases d <;> simp only [unL] at h <;> first | (rw [unM_ok hu _ _ h]) | cases h
theorem unT2_ok {α γ : Type} {u : D → Option α} {v : D → Option γ} {f : α → D} {g : γ → D} (hu : UnOk u f) (hv : UnOk v g) : UnOk (unT2 u v) (eT2 f g) := fun d a h => by
  unfold unT2 at h
  split at h
  · obtain ⟨x, h1, h2⟩ := Option.bind_eq_some_iff.mp h
    obtain ⟨y, h3, rfl⟩ := Option.map_eq_some_iff.mp h2
    rw [hu _ _ h1, hv _ _ h3]
  · cases h
theorem unT3_ok {α γ δ : Type} {u : D → Option α} {v : D → Option γ} {w : D → Option δ} {f : α → D} {g : γ → D} {i : δ → D} (hu : UnOk u f) (hv : UnOk v g) (hw : UnOk w i) : UnOk (unT3 u v w) (eT3 f g i) := fun d a h => by
  unfold unT3 at h
  split at h
  · obtain ⟨x, h1, h⟩ := Option.bind_eq_some_iff.mp h
    obtain ⟨y, h2, h⟩ := Option.bind_eq_some_iff.mp h
    obtain ⟨z, h3, rfl⟩ := Option.map_eq_some_iff.mp h
    rw [hu _ _ h1, hv _ _ h2, hw _ _ h3]
  · cases h
theorem unT4_ok {α γ δ ε : Type} {u : D → Option α} {v : D → Option γ} {w : D → Option δ} {q : D → Option ε} {f : α → D} {g : γ → D} {i : δ → D} {j : ε → D} (hu : UnOk u f) (hv : UnOk v g) (hw : UnOk w i) (hq : UnOk q j) : UnOk (unT4 u v w q) (eT4 f g i j) := fun d a h => by
  unfold unT4 at h
  split at h
  · obtain ⟨x, h1, h⟩ := Option.bind_eq_some_iff.mp h
    obtain ⟨y, h2, h⟩ := Option.bind_eq_some_iff.mp h
    obtain ⟨z, h3, h⟩ := Option.bind_eq_some_iff.mp h
    obtain ⟨o, h4, rfl⟩ := Option.map_eq_some_iff.mp h
    rw [hu _ _ h1, hv _ _ h2, hw _ _ h3, hq _ _ h4]
  · cases h
theorem ce_un {β : Type} {Γ : Gx β} {A : AS} {t : Q β} {α : Type} {e : Ex} {κ : RV → AS → Q β → Prop} {u : D → Option α} {f : α → D} (hu : UnOk u f) (h : CE e A t (fun rv B t' => ∃ (d : D) (k : α → Q β), rv = .dat d ∧ t' = (Q.of (u d)).bind k ∧ ∀ v, κ (.dat (f v)) B (k v)) Γ) : CE e A t κ Γ := fun ρ S k E hc => by
  refine h ρ S _ E fun r1 v1 B S1 t1 h1 E1 q1 => ?_
  obtain ⟨d, k2, rfl, rfl, hk⟩ := h1
  cases ho : u d with
  | none => trivial
  | some v => rw [hu d v ho] at q1; exact hc _ _ _ _ _ (hk v) E1 q1
theorem unM_map {α : Type} {u : D → Option α} {f : α → D} (h : ∀ a, u (f a) = some a) : ∀ xs : List α, unM u (xs.map f) = some xs
  | [] => rfl
  | x :: r => by simp [unM, h, unM_map h r]
theorem unV_eI (xs : List Int) : unV unI (.tuple (xs.map .int)) = some xs := unM_map (f := eI) (fun _ => rfl) xs
/-- a list that is told item by item, as a new object -/
theorem pn_lst {A : AS} {f : La} {ds : List D} (h : PA1 f A ds) (hl : ds.length ≤ 900) : ∀ ρ S, Env A ρ S → ∀ a : Unit, (Q.ok () : Q Unit) = .ok a → eLstM f ρ S = .ok (.loc S.length) (S ++ [some (.lst ds)]) := fun ρ S E a _ => by
  simp only [eLstM, h ρ S E, R.bind, mkLoc, allD_map]
  rw [if_pos (by omega)]
end DL

namespace DL
open PySem L2
/-! ### errors as values -/
theorem erV_loc {o : Option XV} {n : Nat} (h : erV o = .loc n) : False := by cases o <;> cases h
theorem Env.setE {A : AS} {ρ : Ev} {S : Sto} (E : Env A ρ S) (i : Nat) (o : Option XV) : Env (A.set i (some (.er o))) (ρ.set i (some (erV o))) S where
  len := by simpa using E.len
  at' := fun j sv h => by
    rcases getset h with ⟨rfl, e⟩ | ⟨q, h⟩
    · cases e
      have := lt_of_get h
      rw [List.length_set] at this
      exact ⟨erV o, List.getElem?_set_self (E.len ▸ this), rfl⟩
    · obtain ⟨v, h1, h2⟩ := E.at' j sv h
      exact ⟨v, setget h1 q, h2⟩
  inj := fun j k sv sv' n hj hk h1 h2 => by
    rcases getset h1 with ⟨rfl, e⟩ | ⟨q1, h1⟩
    · injection e with e; exact (erV_loc e.symm).elim
    rcases getset h2 with ⟨rfl, e⟩ | ⟨q2, h2⟩
    · injection e with e; exact (erV_loc e.symm).elim
    rcases getset hj with ⟨rfl, _⟩ | ⟨_, hj⟩
    · exact absurd rfl q1
    rcases getset hk with ⟨rfl, _⟩ | ⟨_, hk⟩
    · exact absurd rfl q2
    exact E.inj j k sv sv' n hj hk h1 h2
/-- None is no error -/
theorem Env.asE {A : AS} {ρ : Ev} {S : Sto} (E : Env A ρ S) {i : Nat} (hi : A[i]? = some (some (.dat .none))) : Env (A.set i (some (.er none))) ρ S where
  len := by simpa using E.len
  at' := fun j sv h => by
    rcases getset h with ⟨rfl, e⟩ | ⟨q, h⟩
    · cases e
      obtain ⟨v, h1, h2⟩ := E.at' i _ hi
      exact ⟨v, h1, h2⟩
    · exact E.at' j sv h
  inj := fun j k sv sv' n hj hk h1 h2 => by
    have g : ∀ (j : Nat) (s : SV), (A.set i (some (.er none)))[j]? = some (some s) → ∃ s0, A[j]? = some (some s0) := fun j s h => by
      rcases getset h with ⟨rfl, e⟩ | ⟨q, h⟩
      · exact ⟨_, hi⟩
      · exact ⟨s, h⟩
    obtain ⟨s0, hj⟩ := g j sv hj
    obtain ⟨s1, hk⟩ := g k sv' hk
    exact E.inj j k s0 s1 n hj hk h1 h2
def isX (m : Str → Option Bool) (o : Option XV) : Option Bool := o.bind fun x => m x.cls
section
variable {β : Type} {Γ : Gx β} {A : AS} {t : Q β}
theorem ce_er {i : Nat} {o : Option XV} {κ : RV → AS → Q β → Prop} (h : A[i]? = some (some (.er o))) (hk : κ (.er o) A t) : CE (eVar i) A t κ Γ := fun ρ S k E hc => by
  obtain ⟨v, h1, h2⟩ := E.at' i _ h
  cases h2
  simp only [eVar, h1, R.st]
  exact hc _ _ _ _ _ hk E rfl
theorem ca_er {i : Nat} {o : Option XV} {r : La} {κ : List RV → AS → Q β → Prop} (hi : A[i]? = some (some (.er o))) (h : CA r A t (fun rvs C t'' => κ (.er o :: rvs) C t'') Γ) : CA (aCons (eVar i) r) A t κ Γ := fun ρ S k E hc => by
  obtain ⟨v, h1, h2⟩ := E.at' i _ hi
  cases h2
  simp only [aCons, bind_st]
  simp only [eVar, h1, R.st]
  refine h ρ S _ E fun r2 v2 B2 S2 t2 h2 E2 q2 n2 => ?_
  exact hc _ _ _ _ _ h2 E2 (.cons rfl q2) (by cases o <;> simpa [newLocs, erV] using n2)
theorem cb_setE {i : Nat} {e : Ex} {κ : AS → Q β → Prop} (h : CE e A t (fun rv B t' => ∃ o, (rv = .er o ∨ (rv = .dat .none ∧ o = none)) ∧ κ (B.set i (some (.er o))) t') Γ) : CB (sSet i e) A t κ Γ := fun ρ S k E hc => by
  simp only [sSet, st_fl]
  refine h ρ S _ E fun rv v B S' t' h1 E1 q1 => ?_
  obtain ⟨o, h1 | ⟨h1, rfl⟩, hk⟩ := h1
  · subst h1; cases q1; exact hc _ _ _ _ hk (E1.setE i o)
  · subst h1; cases q1; exact hc _ _ _ _ hk (E1.setE i none)
theorem cb_asE {i : Nat} {b : Blk} {κ : AS → Q β → Prop} (hi : A[i]? = some (some (.dat .none))) (h : CB b (A.set i (some (.er none))) t κ Γ) : CB b A t κ Γ := fun ρ S k E hc => h ρ S k (E.asE hi) hc
theorem ce_isE {m : Str → Option Bool} {e : Ex} {κ : RV → AS → Q β → Prop} (h : CE e A t (fun r B t' => ∃ o, r = .er o ∧ Fin ((isX m o).map .bool) B t' κ) Γ) : CE (eIsE m e) A t κ Γ := fun ρ S k E hc => by
  simp only [eIsE, bind_st]
  refine h ρ S _ E fun r v B S1 t1 h1 E1 q1 => ?_
  obtain ⟨o, rfl, hf⟩ := h1
  cases q1
  have e1 := ref_ofO (Γ := Γ) (k := k) E1 hf hc
  cases o with
  | none => exact e1
  | some x =>
    simp only [erV]
    simp only [isX, Option.bind] at e1
    cases hm : m x.cls with
    | none => rw [hm] at e1; exact e1
    | some b => rw [hm] at e1; exact e1
theorem isNV_er (o : Option XV) : isNV (erV o) = o.isNone := by cases o <;> rfl
theorem ce_isN {e : Ex} {κ : RV → AS → Q β → Prop} (h : CE e A t (fun r B t' => ∃ o, r = .er o ∧ κ (.dat (.bool o.isNone)) B t') Γ) : CE (eIsNV false e) A t κ Γ := fun ρ S k E hc => by
  simp only [eIsNV, bind_st]
  refine h ρ S _ E fun r v B S1 t1 h1 E1 q1 => ?_
  obtain ⟨o, rfl, hk⟩ := h1
  cases q1
  simp only [isNV_er, Bool.false_xor]
  exact hc _ _ _ _ _ hk E1 rfl
theorem ce_isnN {e : Ex} {κ : RV → AS → Q β → Prop} (h : CE e A t (fun r B t' => ∃ o, r = .er o ∧ κ (.dat (.bool (!o.isNone))) B t') Γ) : CE (eIsNV true e) A t κ Γ := fun ρ S k E hc => by
  simp only [eIsNV, bind_st]
  refine h ρ S _ E fun r v B S1 t1 h1 E1 q1 => ?_
  obtain ⟨o, rfl, hk⟩ := h1
  cases q1
  simp only [isNV_er, Bool.true_xor]
  exact hc _ _ _ _ _ hk E1 rfl
/-! ### try -/
def tryQ {α : Type} (m : Str → Option Bool) (q : Q α) (h : XV → Q α) : Q α := match q with
  | .exc x _ => if m x.cls = some true then (h x).noX else .bad
  | q => q
@[simp] theorem tryQ_ok {α : Type} (m : Str → Option Bool) (a : α) (h : XV → Q α) : tryQ m (.ok a) h = .ok a := by simp only [tryQ]
@[simp] theorem tryQ_exc {α : Type} (m : Str → Option Bool) (x : XV) (os : List O) (h : XV → Q α) : tryQ m (.exc x os) h = if m x.cls = some true then (h x).noX else .bad := by simp only [tryQ]
theorem cb_tryE {σ ρr : Type} {m : Str → Option Bool} {i : Nat} {g hb : Blk} {q : Q (LF σ ρr)} {hq : XV → Q (LF σ ρr)} {t2 : σ → Q β} {t3 : ρr → Q β} {κ : AS → Q β → Prop} (A0 : AS) (AL : σ → AS) (GR : RV → AS → ρr → Prop)
    (h1 : CB g A q (fun B t => ∃ s, t = .ok (.nx s) ∧ Weak B (AL s)) ⟨fun fl l => match fl, l with | .nx B, .nx s => Weak B (AL s) | .rt v B, .rt r => GR v B r | _, _ => False, fun B _ => Weak B A0⟩)
    (h2 : ∀ x, CB hb (A0.set i (some (.er (some x)))) (hq x) (fun B t => ∃ s, t = .ok (.nx s) ∧ Weak (B.set i none) (AL s)) ⟨fun fl l => match fl, l with | .nx B, .nx s => Weak (B.set i none) (AL s) | .rt v B, .rt r => GR v B r | _, _ => False, fun _ _ => True⟩)
    (hk : ∀ s, κ (AL s) (t2 s)) (hr : ∀ v B r, GR v B r → ∃ a, t3 r = .ok a ∧ Γ.G (.rt v B) a) : CB (sTryE m i g hb) A ((tryQ m q hq).lf t2 t3) κ Γ := by
  refine cb_joinR AL GR (fun ρ S k E hc => ?_) hk hr
  have k1 := h1 ρ S (fun ρ' S' => .ok (.nx ρ') S') E fun B ρ' S' t' ⟨s, h1, h2⟩ E1 => by
    subst h1; exact ⟨.nx B, E1, h2⟩
  rw [fl_id] at k1
  cases q with
  | bad => trivial
  | ok l =>
    obtain ⟨fl, m1, g1⟩ := k1
    cases fl with
    | nx B =>
      cases l with
      | nx s =>
        cases he : g ρ S with
        | ok f S' =>
          rw [he] at m1
          cases f with
          | nx ρ' =>
            have : sTryE m i g hb ρ S = .ok (.nx ρ') S' := by simp only [sTryE, he]
            rw [this]
            exact hc _ _ _ _ ⟨s, by simp only [tryQ], g1⟩ m1
          | _ => exact m1.elim
        | exc x S' => rw [he] at m1; exact m1.elim
        | bad => rw [he] at m1; exact m1.elim
      | _ => exact g1.elim
    | rt v B =>
      cases l with
      | rt r =>
        cases he : g ρ S with
        | ok f S' =>
          rw [he] at m1
          cases f with
          | rt w =>
            have : sTryE m i g hb ρ S = .ok (.rt w) S' := by simp only [sTryE, he]
            rw [this, tryQ_ok]
            exact ⟨.rt v B, m1, g1⟩
          | _ => exact m1.elim
        | exc x S' => rw [he] at m1; exact m1.elim
        | bad => rw [he] at m1; exact m1.elim
      | _ => exact g1.elim
    | bk B => cases l <;> exact g1.elim
    | ct B => cases l <;> exact g1.elim
  | exc x os =>
    obtain ⟨ρ1, S1, B, e1, e2, e3⟩ := k1
    rw [tryQ_exc]
    by_cases hm : m x.cls = some true
    · rw [if_pos hm]
      have E0 := (e2.weak e3).setE i (some x)
      have k2 := h2 x _ S1 (fun ρ' S' => .ok (.nx ρ') S') E0 fun B ρ' S' t' ⟨s, h1, h2⟩ E1 => by
        subst h1; exact ⟨.nx B, E1, h2⟩
      rw [fl_id] at k2
      have hs : sTryE m i g hb ρ S = unsetF i (hb (ρ1.set i (some (.er x))) S1) := by simp only [sTryE, e1, hm]
      rw [hs]
      cases hqx : hq x with
      | bad => trivial
      | exc y os => trivial
      | ok l =>
        rw [hqx] at k2
        obtain ⟨fl, m1, g1⟩ := k2
        have m1 : Mt (hb (ρ1.set i (some (.er x))) S1) fl := m1
        cases fl with
        | nx B =>
          cases l with
          | nx s =>
            cases he : hb (ρ1.set i (some (.er x))) S1 with
            | ok f S' =>
              rw [he] at m1
              cases f with
              | nx ρ' =>
                refine hc (B.set i none) _ _ _ ⟨s, by simp only [Q.noX], g1⟩ (Env.drop m1 i none)
              | _ => exact m1.elim
            | exc x S' => rw [he] at m1; exact m1.elim
            | bad => rw [he] at m1; exact m1.elim
          | _ => exact g1.elim
        | rt v B =>
          cases l with
          | rt r =>
            cases he : hb (ρ1.set i (some (.er x))) S1 with
            | ok f S' =>
              rw [he] at m1
              cases f with
              | rt w => exact ⟨.rt v B, m1, g1⟩
              | _ => exact m1.elim
            | exc x S' => rw [he] at m1; exact m1.elim
            | bad => rw [he] at m1; exact m1.elim
          | _ => exact g1.elim
        | bk B => cases l <;> exact g1.elim
        | ct B => cases l <;> exact g1.elim
    · rw [if_neg hm]; trivial
/-! ### index, count -/
theorem ce_lm {op : D → D → Option D} {fo fe : Ex} {κ : RV → AS → Q β → Prop}
    (h : CE fo A t (fun r1 A1 t1 => (∃ ds, Lk A1 r1 (.list ds)) ∧ CE fe A1 t1 (fun r2 A2 t2 => ∃ d1 d2, Lk A2 r1 d1 ∧ Lk A2 r2 d2 ∧ Fin (op d1 d2) A2 t2 κ) Γ) Γ) : CE (eLm op fo fe) A t κ Γ := fun ρ S k E hc => by
  simp only [eLm, bind_st]
  refine h ρ S _ E fun r1 v1 B1 S1 t1 h1 E1 q1 => ?_
  obtain ⟨⟨ds, l0⟩, h1⟩ := h1
  simp only [Lk.look E1 (q1.one l0.r) l0, bind_st]
  refine h1 ρ S1 _ E1 fun r2 v2 B2 S2 t2 h2 E2 q2 => ?_
  obtain ⟨d1, d2, l1, l2, hf⟩ := h2
  simp only [op2, Lk.look E2 (q1.one l1.r) l1, Lk.look E2 (q2.one l2.r) l2, Option.bind]
  exact ref_ofO E2 hf hc
end
def idxT {α : Type} [BEq α] (xs : List α) (x : α) : Option Int := (xs.findIdx? fun y => y == x).map fun j => ((j : Nat) : Int)
def cntT {α : Type} [BEq α] (xs : List α) (x : α) : Int := ((xs.countP fun y => y == x : Nat) : Int)
theorem flat_all {α : Type} (f : α → D) (hf : ∀ a, flatD (f a) = true) : ∀ xs : List α, (xs.map f).all flatD = true
  | [] => rfl
  | x :: r => by rw [List.map_cons, List.all_cons, hf x, flat_all f hf r]; rfl
theorem findIdx_map {α γ : Type} (f : α → γ) (p : γ → Bool) : ∀ xs : List α, (xs.map f).findIdx? p = xs.findIdx? (fun a => p (f a))
  | [] => rfl
  | x :: r => by rw [List.map_cons, List.findIdx?_cons, List.findIdx?_cons, findIdx_map f p r]
theorem o_idx {α : Type} [BEq α] (f : α → D) (hf : ∀ a, flatD (f a) = true) (he : ∀ a b, flatEq (f a) (f b) = (a == b)) (xs : List α) (x : α) : idxD (eL f xs) (f x) = (idxT xs x).map eI := by
  unfold idxD idxT
  simp only [eL, hf x, flat_all f hf xs, Bool.and_self, if_true, findIdx_map, he, Option.map_map]
  rfl
theorem o_cnt {α : Type} [BEq α] (f : α → D) (hf : ∀ a, flatD (f a) = true) (he : ∀ a b, flatEq (f a) (f b) = (a == b)) (xs : List α) (x : α) : cntD (eL f xs) (f x) = some (eI (cntT xs x)) := by
  unfold cntD cntT
  simp only [eL, hf x, flat_all f hf xs, Bool.and_self, if_true, List.countP_map, Function.comp_def, he]
  try rfl
theorem o_idxB (xs : List Bool) (x : Bool) : idxD (eL eB xs) (eB x) = (idxT xs x).map eI := o_idx eB (fun _ => rfl) (fun _ _ => rfl) xs x
theorem o_idxI (xs : List Int) (x : Int) : idxD (eL eI xs) (eI x) = (idxT xs x).map eI := o_idx eI (fun _ => rfl) (fun _ _ => rfl) xs x
theorem o_idxS (xs : List Str) (x : Str) : idxD (eL eS xs) (eS x) = (idxT xs x).map eI := o_idx eS (fun _ => rfl) (fun _ _ => rfl) xs x
theorem o_cntB (xs : List Bool) (x : Bool) : cntD (eL eB xs) (eB x) = some (eI (cntT xs x)) := o_cnt eB (fun _ => rfl) (fun _ _ => rfl) xs x
theorem o_cntI (xs : List Int) (x : Int) : cntD (eL eI xs) (eI x) = some (eI (cntT xs x)) := o_cnt eI (fun _ => rfl) (fun _ _ => rfl) xs x
theorem o_cntS (xs : List Str) (x : Str) : cntD (eL eS xs) (eS x) = some (eI (cntT xs x)) := o_cnt eS (fun _ => rfl) (fun _ _ => rfl) xs x
def repVT {α : Type} (xs : List α) (k : Int) : Option (List α) := if -1000 ≤ k ∧ k ≤ 1000 ∧ xs.length ≤ 1000 then some (List.replicate k.toNat xs).flatten else none
theorem o_repV {α : Type} (f : α → D) (xs : List α) (k : Int) : repTD (eV f xs) (eI k) = (repVT xs k).map (eV f) := by
  show repTD (.tuple (xs.map f)) (.int k) = _
  simp only [repTD, repVT, List.length_map]
  by_cases h : -1000 ≤ k ∧ k ≤ 1000 ∧ xs.length ≤ 1000
  · rw [if_pos h, if_pos h, rep_map]; rfl
  · rw [if_neg h, if_neg h]; rfl
end DL

/-! plain lemmas about the typed forms -/
namespace DL
open PySem L2
section
variable {α σ γ ρ : Type}
theorem foldQ_inv {f : α → σ → Q σ} (I : σ → Prop) : ∀ {xs : List α} {s : σ}, (∀ x ∈ xs, ∀ s, I s → ∃ s', f x s = .ok s' ∧ I s') → I s → ∃ s', foldQ xs s f = .ok s' ∧ I s'
  | [], s, _, h0 => ⟨s, rfl, h0⟩
  | x :: xs, s, h, h0 => by
    obtain ⟨s1, e1, h1⟩ := h x List.mem_cons_self s h0
    obtain ⟨s2, e2, h2⟩ := foldQ_inv I (fun y hy => h y (List.mem_cons_of_mem _ hy)) h1
    exact ⟨s2, by rw [foldQ, e1, Q.ok_bind, e2], h2⟩
/-- with what has been gone through -/
theorem foldQ_pre {f : α → σ → Q σ} (I : List α → σ → Prop) : ∀ {xs : List α} {s : σ} (done : List α), (∀ d x r s, done ++ xs = d ++ x :: r → I d s → ∃ s', f x s = .ok s' ∧ I (d ++ [x]) s') → I done s → ∃ s', foldQ xs s f = .ok s' ∧ I (done ++ xs) s'
  | [], s, done, _, h0 => ⟨s, rfl, by simpa using h0⟩
  | x :: xs, s, done, h, h0 => by
    obtain ⟨s1, e1, h1⟩ := h done x xs s rfl h0
    obtain ⟨s2, e2, h2⟩ := foldQ_pre I (xs := xs) (done ++ [x]) (fun d y r s e => h d y r s (by simpa using e)) h1
    exact ⟨s2, by rw [foldQ, e1, Q.ok_bind, e2], by simpa using h2⟩
/-- how often -/
theorem foldQ_num {f : α → σ → Q σ} (I : Nat → σ → Prop) {xs : List α} {s : σ} (h : ∀ x ∈ xs, ∀ n s, n < xs.length → I n s → ∃ s', f x s = .ok s' ∧ I (n + 1) s') (h0 : I 0 s) : ∃ s', foldQ xs s f = .ok s' ∧ I xs.length s' := by
  obtain ⟨s', e, h'⟩ := foldQ_pre (fun d s => I d.length s) (xs := xs) (s := s) [] (fun d x r s e hi => by
    have e : xs = d ++ x :: r := by simpa using e
    obtain ⟨s', e1, e2⟩ := h x (by rw [e]; simp) d.length s (by rw [e]; simp) hi
    exact ⟨s', e1, by simpa using e2⟩) h0
  exact ⟨s', e, by simpa using h'⟩
theorem foldQ_eq {f : α → σ → Q σ} (g : α → σ → σ) : ∀ {xs : List α} {s : σ}, (∀ x ∈ xs, ∀ s, f x s = .ok (g x s)) → foldQ xs s f = .ok (xs.foldl (fun s x => g x s) s)
  | [], s, _ => rfl
  | x :: xs, s, h => by rw [foldQ, h x List.mem_cons_self, Q.ok_bind, foldQ_eq g fun y hy => h y (List.mem_cons_of_mem _ hy)]; rfl
theorem forQ_inv {f : α → σ → Q (LF σ ρ)} (I : σ → Prop) : ∀ {xs : List α} {s : σ}, (∀ x ∈ xs, ∀ s, I s → ∃ s', f x s = .ok (.nx s') ∧ I s') → I s → ∃ s', forQ xs s f = .ok (.nx s') ∧ I s'
  | [], s, _, h0 => ⟨s, rfl, h0⟩
  | x :: xs, s, h, h0 => by
    obtain ⟨s1, e1, h1⟩ := h x List.mem_cons_self s h0
    obtain ⟨s2, e2, h2⟩ := forQ_inv I (fun y hy => h y (List.mem_cons_of_mem _ hy)) h1
    exact ⟨s2, by rw [forQ, e1, Q.ok_bind]; exact e2, h2⟩
/-- a loop without a state that gives back at the first that is so -/
theorem forQ_find {f : α → Unit → Q (LF Unit ρ)} (p : α → Bool) (r : α → ρ) : ∀ {xs : List α}, (∀ x ∈ xs, f x () = .ok (if p x = true then .rt (r x) else .nx ())) → forQ xs () f = .ok (match xs.find? p with | some x => .rt (r x) | none => .nx ())
  | [], _ => rfl
  | x :: xs, h => by
    rw [forQ, h x List.mem_cons_self, Q.ok_bind, List.find?_cons]
    cases hp : p x with
    | true => simp
    | false => simp only [Bool.false_eq_true, if_false]; exact forQ_find p r fun y hy => h y (List.mem_cons_of_mem _ hy)
theorem forQ_all {f : α → Unit → Q (LF Unit ρ)} {xs : List α} (h : ∀ x ∈ xs, f x () = .ok (.nx ())) : forQ xs () f = .ok (.nx ()) := by
  obtain ⟨s', e, _⟩ := forQ_inv (f := f) (fun _ => True) (xs := xs) (s := ()) (fun x hx s _ => ⟨(), h x hx, trivial⟩) trivial
  exact e
theorem compQ_inv {f : α → σ → Q (Option γ × σ)} (I : σ → Prop) (P : α → γ → Prop) : ∀ {xs : List α} {s : σ}, (∀ x ∈ xs, ∀ s, I s → ∃ y s', f x s = .ok (some y, s') ∧ I s' ∧ P x y) → I s → ∃ ys s', compQ xs s f = .ok (ys, s') ∧ I s' ∧ ys.length = xs.length ∧ ∀ (i : Nat) (x : α) (y : γ), xs[i]? = some x → ys[i]? = some y → P x y
  | [], s, _, h0 => ⟨[], s, rfl, h0, rfl, fun i x y h => by simp at h⟩
  | x :: xs, s, h, h0 => by
    obtain ⟨y, s1, e1, h1, p1⟩ := h x List.mem_cons_self s h0
    obtain ⟨ys, s2, e2, h2, l2, p2⟩ := compQ_inv I P (fun z hz => h z (List.mem_cons_of_mem _ hz)) h1
    refine ⟨y :: ys, s2, by rw [compQ, e1, Q.ok_noX, Q.ok_bind, e2]; rfl, h2, by simp [l2], fun i a b ha hb => ?_⟩
    cases i with
    | zero => simp at ha hb; subst ha hb; exact p1
    | succ i => simp at ha hb; exact p2 i a b ha hb
theorem compQ_all {f : α → σ → Q (Option γ × σ)} (I : σ → Prop) (P : γ → Prop) {xs : List α} {s : σ} (h : ∀ x ∈ xs, ∀ s, I s → ∃ y s', f x s = .ok (some y, s') ∧ I s' ∧ P y) (h0 : I s) : ∃ ys s', compQ xs s f = .ok (ys, s') ∧ I s' ∧ ys.length = xs.length ∧ ∀ y ∈ ys, P y := by
  obtain ⟨ys, s', e, h1, h2, h3⟩ := compQ_inv I (fun _ y => P y) h h0
  refine ⟨ys, s', e, h1, h2, fun y hy => ?_⟩
  obtain ⟨i, hi, rfl⟩ := List.getElem_of_mem hy
  exact h3 i xs[i] ys[i] (List.getElem?_eq_getElem (by omega)) (List.getElem?_eq_getElem hi)
theorem compQ_fun {f : α → Unit → Q (Option γ × Unit)} (g : α → γ) : ∀ {xs : List α}, (∀ x ∈ xs, f x () = .ok (some (g x), ())) → compQ xs () f = .ok (xs.map g, ())
  | [], _ => rfl
  | x :: xs, h => by rw [compQ, h x List.mem_cons_self, Q.ok_noX, Q.ok_bind, compQ_fun g fun y hy => h y (List.mem_cons_of_mem _ hy)]; rfl
theorem compQ_opt {f : α → Unit → Q (Option γ × Unit)} (g : α → Option γ) : ∀ {xs : List α}, (∀ x ∈ xs, f x () = .ok (g x, ())) → compQ xs () f = .ok (xs.filterMap g, ())
  | [], _ => rfl
  | x :: xs, h => by
    rw [compQ, h x List.mem_cons_self, Q.ok_noX, Q.ok_bind, compQ_opt g fun y hy => h y (List.mem_cons_of_mem _ hy), Q.ok_bind, List.filterMap_cons]
    cases g x <;> rfl
theorem compQ_if {f : α → Unit → Q (Option γ × Unit)} (p : α → Bool) (g : α → γ) {xs : List α} (h : ∀ x ∈ xs, f x () = .ok (if p x = true then some (g x) else none, ())) : compQ xs () f = .ok ((xs.filter p).map g, ()) := by
  rw [compQ_opt _ h]
  congr 2
  clear h
  induction xs with
  | nil => rfl
  | cons x r ih => by_cases z : p x <;> simp [List.filterMap_cons, List.filter_cons, z, ih]
end
theorem while_t {σ : Type} {c : σ → Q Bool} {f : σ → Q σ} {n : Nat} {s s' : σ} (hc : c s = .ok true) (hf : f s = .ok s') : whileS c f (n + 1) s = whileS c f n s' := by
  rw [whileS, hc, Q.ok_bind, if_pos rfl, hf, Q.ok_bind]
theorem while_f {σ : Type} {c : σ → Q Bool} {f : σ → Q σ} {n : Nat} {s : σ} (hc : c s = .ok false) : whileS c f (n + 1) s = .ok s := by
  rw [whileS, hc, Q.ok_bind]; rfl
/-! what is computed has a quality -/
def Q.Post {α : Type} (q : Q α) (P : α → Prop) : Prop := ∃ a, q = .ok a ∧ P a
section
variable {α β σ γ ρ : Type}
theorem Q.Post.ok {a : α} {P : α → Prop} (h : P a) : (Q.ok a).Post P := ⟨a, rfl, h⟩
theorem Q.Post.bind {q : Q α} {k : α → Q β} {R : α → Prop} {P : β → Prop} (h : q.Post R) (hk : ∀ a, R a → (k a).Post P) : (q.bind k).Post P := by
  obtain ⟨a, rfl, ha⟩ := h; exact hk a ha
theorem Q.Post.noX {q : Q α} {P : α → Prop} (h : q.Post P) : q.noX.Post P := by
  obtain ⟨a, rfl, ha⟩ := h; exact ⟨a, rfl, ha⟩
theorem Q.Post.ex {q : Q α} {P : α → Prop} {f : List O → List O} (h : q.Post P) : (q.ex f).Post P := by
  obtain ⟨a, rfl, ha⟩ := h; exact ⟨a, rfl, ha⟩
theorem Q.Post.of {o : Option α} {a : α} {P : α → Prop} (h : o = some a) (hp : P a) : (Q.of o).Post P := by subst h; exact ⟨a, rfl, hp⟩
theorem Q.Post.imp {q : Q α} {P R : α → Prop} (h : q.Post P) (hi : ∀ a, P a → R a) : q.Post R := by
  obtain ⟨a, e, ha⟩ := h; exact ⟨a, e, hi a ha⟩
theorem Q.Post.ite {c : Prop} [Decidable c] {p q : Q α} {P : α → Prop} (h1 : c → p.Post P) (h2 : ¬ c → q.Post P) : (if c then p else q).Post P := by
  split
  · exact h1 ‹_›
  · exact h2 ‹_›
theorem Q.Post.lf {q : Q (LF σ ρ)} {k : σ → Q β} {kr : ρ → Q β} {R : LF σ ρ → Prop} {P : β → Prop} (h : q.Post R) (hk : ∀ s, (R (.nx s) ∨ R (.bk s)) → (k s).Post P) (hr : ∀ r, R (.rt r) → (kr r).Post P) : (q.lf k kr).Post P := by
  obtain ⟨a, rfl, ha⟩ := h
  cases a with
  | nx s => exact hk s (.inl ha)
  | bk s => exact hk s (.inr ha)
  | rt r => exact hr r ha
/-- a loop: I by how often it has been gone through -/
theorem foldQ_post {xs : List α} {s : σ} {f : α → σ → Q σ} {k : σ → Q β} {P : β → Prop} (I : Nat → σ → Prop) (h0 : I 0 s) (h : ∀ x ∈ xs, ∀ n s, n < xs.length → I n s → (f x s).Post (I (n + 1))) (hk : ∀ s, I xs.length s → (k s).Post P) : ((foldQ xs s f).bind k).Post P := by
  obtain ⟨s', e, i⟩ := foldQ_num I h h0
  rw [e]; exact hk s' i
theorem foldQ_postD {xs : List α} {s : σ} {f : α → σ → Q σ} {k : σ → Q β} {P : β → Prop} (I : List α → σ → Prop) (h0 : I [] s) (h : ∀ d x r s, xs = d ++ x :: r → I d s → (f x s).Post (I (d ++ [x]))) (hk : ∀ s, I xs s → (k s).Post P) : ((foldQ xs s f).bind k).Post P := by
  obtain ⟨s', e, i⟩ := foldQ_pre I (xs := xs) (s := s) [] (fun d x r s e hi => h d x r s (by simpa using e) hi) h0
  rw [e]; exact hk s' (by simpa using i)
theorem compQ_post {xs : List α} {s : σ} {f : α → σ → Q (Option γ × σ)} {k : List γ × σ → Q β} {P : β → Prop} (I : σ → Prop) (R : α → γ → Prop) (h0 : I s) (h : ∀ x ∈ xs, ∀ s, I s → (f x s).Post fun p => ∃ y, p.1 = some y ∧ I p.2 ∧ R x y) (hk : ∀ ys s', I s' → ys.length = xs.length → (∀ (i : Nat) (x : α) (y : γ), xs[i]? = some x → ys[i]? = some y → R x y) → (k (ys, s')).Post P) : ((compQ xs s f).bind k).Post P := by
  obtain ⟨ys, s', e, h1, h2, h3⟩ := compQ_inv I R (xs := xs) (s := s) (fun x hx s hs => by
    obtain ⟨⟨o, s'⟩, e, y, ho, h1, h2⟩ := h x hx s hs
    simp only at ho h1
    subst ho
    exact ⟨y, s', e, h1, h2⟩) h0
  rw [e]; exact hk ys s' h1 h2 h3
theorem forQ_num {f : α → σ → Q (LF σ ρ)} (I : Nat → σ → Prop) : ∀ {xs : List α} {s : σ} (n : Nat), (∀ x ∈ xs, ∀ k s, k < n + xs.length → I k s → ∃ s', f x s = .ok (.nx s') ∧ I (k + 1) s') → I n s → ∃ s', forQ xs s f = .ok (.nx s') ∧ I (n + xs.length) s'
  | [], s, n, _, h0 => ⟨s, rfl, by simpa using h0⟩
  | x :: xs, s, n, h, h0 => by
    obtain ⟨s1, e1, h1⟩ := h x List.mem_cons_self n s (by simp) h0
    obtain ⟨s2, e2, h2⟩ := forQ_num I (xs := xs) (n + 1) (fun y hy k s hk => h y (List.mem_cons_of_mem _ hy) k s (by simp; omega)) h1
    refine ⟨s2, by rw [forQ, e1, Q.ok_bind]; exact e2, ?_⟩
    rw [List.length_cons, show n + (xs.length + 1) = n + 1 + xs.length by omega]; exact h2
theorem forQ_postN {xs : List α} {s : σ} {f : α → σ → Q (LF σ ρ)} {k : σ → Q β} {kr : ρ → Q β} {P : β → Prop} (I : Nat → σ → Prop) (h0 : I 0 s) (h : ∀ x ∈ xs, ∀ n s, n < xs.length → I n s → (f x s).Post fun l => ∃ s', l = .nx s' ∧ I (n + 1) s') (hk : ∀ s, I xs.length s → (k s).Post P) : ((forQ xs s f).lf k kr).Post P := by
  obtain ⟨s', e, i⟩ := forQ_num I (xs := xs) (s := s) 0 (fun x hx n s hn hs => by
    obtain ⟨l, e, s', rfl, hi⟩ := h x hx n s (by simpa using hn) hs
    exact ⟨s', e, hi⟩) h0
  rw [e]; exact hk s' (by simpa using i)
theorem forQ_post {xs : List α} {s : σ} {f : α → σ → Q (LF σ ρ)} {k : σ → Q β} {kr : ρ → Q β} {P : β → Prop} (I : σ → Prop) (h0 : I s) (h : ∀ x ∈ xs, ∀ s, I s → (f x s).Post fun l => ∃ s', l = .nx s' ∧ I s') (hk : ∀ s, I s → (k s).Post P) : ((forQ xs s f).lf k kr).Post P := by
  obtain ⟨s', e, i⟩ := forQ_inv I (xs := xs) (s := s) (fun x hx s hs => by
    obtain ⟨l, e, s', rfl, hi⟩ := h x hx s hs
    exact ⟨s', e, hi⟩) h0
  rw [e]; exact hk s' i
end
/-! ranges and places -/
theorem rgT_ok {i j : Int} (h0 : -1000000 ≤ i) (h1 : i ≤ 1000000) (h2 : j ≤ 1000000) (h3 : -1000000 ≤ j) (h4 : j - i ≤ 1000000) : rgT i j = some (irange i j) := by
  unfold rgT; rw [if_pos (by omega)]
theorem rgT0 {j : Int} (h2 : j ≤ 1000000) (h3 : -1000000 ≤ j) : rgT 0 j = some (irange 0 j) := rgT_ok (by omega) (by omega) h2 h3 (by omega)
theorem mem_irange {i j x : Int} : x ∈ irange i j ↔ i ≤ x ∧ x < j := by
  unfold irange
  simp only [List.mem_map, List.mem_range]
  constructor
  · rintro ⟨k, hk, rfl⟩; omega
  · intro ⟨h1, h2⟩; exact ⟨(x - i).toNat, by omega, by omega⟩
theorem irange_len (i j : Int) : (irange i j).length = (j - i).toNat := by simp [irange]
theorem irange_get {i j : Int} {k : Nat} (h : (k : Int) < j - i) : (irange i j)[k]? = some (i + k) := by
  unfold irange
  rw [List.getElem?_map, List.getElem?_range (by omega)]; rfl
theorem irange_nodup (i j : Int) : (irange i j).Nodup := by
  unfold irange
  refine List.Pairwise.map _ (fun a b h => ?_) List.nodup_range
  intro e; apply h; omega
theorem atI_ok {α : Type} {xs : List α} {i : Int} (h : 0 ≤ i) (h2 : i < xs.length) : atI xs i = some (xs[i.toNat]'(by omega)) := by
  unfold atI ixN
  rw [if_pos h, if_pos h2]
  simp only [Option.bind]
  rw [List.getElem?_eq_getElem]
theorem atI_get {α : Type} {xs : List α} {i : Int} (h : 0 ≤ i) : atI xs i = xs[i.toNat]? := by
  unfold atI ixN
  rw [if_pos h]
  by_cases h2 : i < xs.length
  · rw [if_pos h2]; rfl
  · rw [if_neg h2, List.getElem?_eq_none (by omega)]; rfl
theorem setT_ok {α : Type} {xs : List α} {i : Int} {x : α} (h : 0 ≤ i) (h2 : i < xs.length) : setT xs i x = some (xs.set i.toNat x) := by
  unfold setT ixN
  rw [if_pos h, if_pos h2]; rfl
theorem roomT_ok {n : Nat} (h : n < 16777216) : roomT n = some () := by
  unfold roomT; rw [if_pos (by unfold sizeLine; omega)]
theorem catT_ok {α : Type} {xs ys : List α} (h : xs.length + ys.length ≤ 16777216) : catT xs ys = some (xs ++ ys) := by
  unfold catT; rw [if_pos (by unfold sizeLine; omega)]
theorem sIx_pos {n d : Nat} {k : Int} (h : 0 ≤ k) : HT.sIx n d (some k) = min k.toNat n := by
  show (if k < 0 then (k + (n : Int)).toNat else min k.toNat n) = _
  rw [if_neg (by omega)]
theorem cut_hi {α : Type} {xs : List α} {k : Int} (h : 0 ≤ k) : cutD xs none (some k) = xs.take k.toNat := by
  unfold cutD
  rw [sIx_pos h, HT.sIx_none]
  simp only [List.drop_zero, Nat.sub_zero]
  by_cases hk : k.toNat ≤ xs.length
  · rw [Nat.min_eq_left hk]
  · rw [Nat.min_eq_right (by omega), List.take_length, List.take_of_length_le (by omega)]
theorem cut_lo {α : Type} {xs : List α} {k : Int} (h : 0 ≤ k) : cutD xs (some k) none = xs.drop k.toNat := by
  unfold cutD
  rw [sIx_pos h, HT.sIx_none]
  by_cases hk : k.toNat ≤ xs.length
  · rw [Nat.min_eq_left hk, List.take_of_length_le (by simp)]
  · rw [Nat.min_eq_right (by omega)]; simp; omega
theorem cut_mid {α : Type} {xs : List α} {k l : Int} (h : 0 ≤ k) (h2 : 0 ≤ l) : cutD xs (some k) (some l) = (xs.drop k.toNat).take (l.toNat - k.toNat) := by
  unfold cutD
  rw [sIx_pos h, sIx_pos h2]
  by_cases hk : k.toNat ≤ xs.length
  · rw [Nat.min_eq_left hk]
    by_cases hl : l.toNat ≤ xs.length
    · rw [Nat.min_eq_left hl]
    · rw [Nat.min_eq_right (by omega), List.take_of_length_le (by simp), List.take_of_length_le (by simp; omega)]
  · rw [Nat.min_eq_right (by omega : xs.length ≤ k.toNat), List.drop_eq_nil_of_le (Nat.le_refl _), List.drop_eq_nil_of_le (by omega)]; simp
end DL

/-! books, in plain words -/
namespace Law
open PySem L2 DL
/-- FROM, TO, LEAST, MOST -/
abbrev Sp := Int × Int × Int × Int
abbrev Bd := Int × Int × Int
abbrev Bk := Int × Int × List Sp × List Bd
abbrev eSp : Sp → D := eT4 eI eI eI eI
abbrev eBd : Bd → D := eT3 eI eI eI
abbrev eBk : Bk → D := eT4 eI eI (eV eSp) (eV eBd)
structure SpOk (e n : Int) (s : Sp) : Prop where
  a0 : 0 ≤ s.1
  a1 : s.1 ≤ n - 1
  g0 : 1 ≤ s.2.1
  g1 : s.2.1 ≤ n - 1
  ne : s.1 ≠ s.2.1
  l0 : 1 ≤ s.2.2.1
  lm : s.2.2.1 ≤ s.2.2.2
  me : s.2.2.2 ≤ e
structure BdOk (n : Int) (b : Bd) : Prop where
  a0 : 0 ≤ b.1
  a1 : b.1 ≤ n - 1
  b0 : 0 ≤ b.2.1
  b1 : b.2.1 ≤ n - 1
  ne : b.1 ≠ b.2.1
  w0 : -60 ≤ b.2.2
  w1 : b.2.2 ≤ 60
/-- the span whose TO a mark is -/
def fnd : List Sp → Nat → Int → Option (Nat × Sp)
  | [], _, _ => none
  | s :: r, k, m => if s.2.1 = m then some (k, s) else fnd r (k + 1) m
def way (sps : List Sp) : Nat → Int → List Nat
  | 0, _ => []
  | n + 1, m => match fnd sps 0 m with
    | none => []
    | some (i, s) => i :: way sps n s.1
def rootM (sps : List Sp) : Nat → Int → Option Int
  | 0, _ => none
  | n + 1, m => match fnd sps 0 m with
    | none => some m
    | some (_, s) => rootM sps n s.1
theorem fnd_at : ∀ (sps : List Sp) (k i : Nat) (m : Int) (s : Sp), fnd sps k m = some (i, s) → k ≤ i ∧ sps[i - k]? = some s ∧ s.2.1 = m
  | [], k, i, m, s, h => by simp [fnd] at h
  | x :: r, k, i, m, s, h => by
    unfold fnd at h
    split at h
    · cases h; exact ⟨Nat.le_refl _, by simp, by assumption⟩
    · obtain ⟨h1, h2, h3⟩ := fnd_at r (k + 1) i m s h
      refine ⟨by omega, ?_, h3⟩
      rw [show i - k = (i - (k + 1)) + 1 by omega, List.getElem?_cons_succ]; exact h2
theorem fnd_none : ∀ (sps : List Sp) (k : Nat) (m : Int), fnd sps k m = none ↔ m ∉ sps.map (·.2.1)
  | [], k, m => by simp [fnd]
  | s :: r, k, m => by
    unfold fnd
    by_cases z : s.2.1 = m
    · simp [z]
    · have := fnd_none r (k + 1) m
      have z' : ¬ m = s.2.1 := fun e => z e.symm
      simp only [if_neg z, this, List.map_cons, List.mem_cons, z', false_or]
def Acyc (sps : List Sp) : Prop := ∀ m, ∃ k x, rootM sps k m = some x
section
variable {sps : List Sp}
theorem root_same : ∀ (k k' : Nat) (m x x' : Int), rootM sps k m = some x → rootM sps k' m = some x' → way sps k m = way sps k' m ∧ x = x'
  | 0, _, _, _, _, h, _ => by simp [rootM] at h
  | k + 1, 0, _, _, _, _, h => by simp [rootM] at h
  | k + 1, k' + 1, m, x, x', h, h' => by
    unfold rootM at h h'
    cases z : fnd sps 0 m with
    | none => simp only [z, Option.some.injEq] at h h'; simp [way, z, ← h, ← h']
    | some p =>
      simp only [z] at h h'
      obtain ⟨h1, h2⟩ := root_same k k' _ x x' h h'
      simp only [way, z, h1, h2, and_self]
theorem root_at : ∀ (k k' : Nat) (m x : Int), rootM sps k m = some x → (way sps k m).length < k' → rootM sps k' m = some x
  | 0, _, _, _, h, _ => by simp [rootM] at h
  | k + 1, 0, _, _, _, h => by omega
  | k + 1, k' + 1, m, x, h, hl => by
    unfold rootM at h ⊢
    cases z : fnd sps 0 m with
    | none => simp only [z] at h ⊢; exact h
    | some p =>
      simp only [z] at h ⊢
      simp only [way, z, List.length_cons] at hl
      exact root_at k k' _ x h (by omega)
theorem way_mem : ∀ (k : Nat) (m x : Int) (i : Nat), rootM sps k m = some x → i ∈ way sps k m → ∃ k' m' s, fnd sps 0 m' = some (i, s) ∧ rootM sps k' m' = some x ∧ (way sps k' m').length ≤ (way sps k m).length
  | 0, _, _, _, h, _ => by simp [rootM] at h
  | k + 1, m, x, i, h, hi => by
    have h0 := h
    unfold rootM at h
    cases z : fnd sps 0 m with
    | none => simp [way, z] at hi
    | some p =>
      obtain ⟨j, s⟩ := p
      simp only [z] at h
      have e : way sps (k + 1) m = j :: way sps k s.1 := by simp only [way, z]
      rw [e] at hi ⊢
      rcases List.mem_cons.mp hi with rfl | hi
      · exact ⟨k + 1, m, s, z, h0, by rw [e]; exact Nat.le_refl _⟩
      · obtain ⟨k', m', s', h1, h2, h3⟩ := way_mem k _ x i h hi
        exact ⟨k', m', s', h1, h2, by rw [List.length_cons]; omega⟩
theorem way_nodup : ∀ (k : Nat) (m x : Int), rootM sps k m = some x → (way sps k m).Nodup ∧ ∀ i ∈ way sps k m, i < sps.length
  | 0, _, _, h => by simp [rootM] at h
  | k + 1, m, x, h => by
    have h0 := h
    unfold rootM at h
    cases z : fnd sps 0 m with
    | none => simp [way, z]
    | some p =>
      obtain ⟨j, s⟩ := p
      simp only [z] at h
      have e : way sps (k + 1) m = j :: way sps k s.1 := by simp only [way, z]
      obtain ⟨n1, n2⟩ := way_nodup k _ x h
      obtain ⟨_, g1, g2⟩ := fnd_at sps 0 j m s z
      rw [e]
      refine ⟨List.nodup_cons.mpr ⟨fun hj => ?_, n1⟩, fun i hi => ?_⟩
      · obtain ⟨k', m', s', h1, h2, h3⟩ := way_mem k _ x j h hj
        obtain ⟨_, g3, g4⟩ := fnd_at sps 0 j m' s' h1
        rw [g1] at g3
        cases g3
        have em : m' = m := g4.symm.trans g2
        subst em
        have := (root_same _ _ _ _ _ h0 h2).1
        rw [← this, e, List.length_cons] at h3
        omega
      · rcases List.mem_cons.mp hi with rfl | hi
        · have := (List.getElem?_eq_some_iff.mp g1).1; omega
        · exact n2 i hi
theorem short_of : ∀ (n : Nat) (l : List Nat), l.Nodup → (∀ i ∈ l, i < n) → l.length ≤ n
  | 0, l, _, h => by
    cases l with
    | nil => simp
    | cons a r => exact absurd (h a List.mem_cons_self) (by omega)
  | n + 1, l, hn, h => by
    by_cases z : n ∈ l
    · have h1 := short_of n (l.erase n) (hn.erase n) fun i hi => by
        have h2 := (List.Nodup.mem_erase_iff hn).mp hi
        have := h i h2.2
        omega
      rw [List.length_erase_of_mem z] at h1
      omega
    · have := short_of n l hn fun i hi => by
        have := h i hi
        have : i ≠ n := fun e => z (e ▸ hi)
        omega
      omega
theorem acyc_root (h : Acyc sps) (m : Int) : (rootM sps (sps.length + 1) m).isSome = true := by
  obtain ⟨k, x, hk⟩ := h m
  obtain ⟨h1, h2⟩ := way_nodup k m x hk
  rw [root_at k (sps.length + 1) m x hk (by have := short_of _ _ h1 h2; omega)]; rfl
theorem way_le : ∀ (n : Nat) (m : Int), (rootM sps n m).isSome = true ↔ (way sps n m).length < n
  | 0, m => by simp [rootM, way]
  | n + 1, m => by
    unfold rootM way
    cases z : fnd sps 0 m with
    | none => simp
    | some p => simp only [List.length_cons]; rw [way_le n]; omega
theorem fnd_app : ∀ (sps : List Sp) (s : Sp) (k : Nat) (m : Int), fnd (sps ++ [s]) k m = match fnd sps k m with | some p => some p | none => if s.2.1 = m then some (k + sps.length, s) else none
  | [], s, k, m => by simp [fnd]
  | x :: r, s, k, m => by
    have ih := fnd_app r s (k + 1) m
    by_cases z : x.2.1 = m
    · simp [fnd, z]
    · simp only [List.cons_append, fnd, if_neg z, ih, List.length_cons, show k + 1 + r.length = k + (r.length + 1) by omega]
theorem add_keep (s : Sp) : ∀ (k : Nat) (m y : Int), rootM sps k m = some y → y ≠ s.2.1 → rootM (sps ++ [s]) k m = some y
  | 0, _, _, h, _ => by simp [rootM] at h
  | k + 1, m, y, h, hy => by
    unfold rootM at h ⊢
    rw [fnd_app]
    cases z : fnd sps 0 m with
    | none =>
      simp only [z] at h ⊢
      cases h
      rw [if_neg (fun e => hy e.symm)]
    | some p =>
      simp only [z] at h ⊢
      exact add_keep s k _ y h hy
theorem add_move (s : Sp) {x : Int} {K : Nat} (hx : rootM (sps ++ [s]) K s.1 = some x) : ∀ (k : Nat) (m : Int), rootM sps k m = some s.2.1 → ∃ k', rootM (sps ++ [s]) k' m = some x
  | 0, _, h => by simp [rootM] at h
  | k + 1, m, h => by
    unfold rootM at h
    cases z : fnd sps 0 m with
    | none =>
      simp only [z] at h
      cases h
      refine ⟨K + 1, ?_⟩
      unfold rootM
      rw [fnd_app, z]
      simp only [if_true]
      exact hx
    | some p =>
      simp only [z] at h
      obtain ⟨k', h'⟩ := add_move s hx k _ h
      refine ⟨k' + 1, ?_⟩
      unfold rootM
      rw [fnd_app, z]
      exact h'
theorem acyc_add {s : Sp} {K : Nat} {x : Int} (h : Acyc sps) (ha : rootM sps K s.1 = some x) (hx : x ≠ s.2.1) : Acyc (sps ++ [s]) := fun m => by
  obtain ⟨k, y, hk⟩ := h m
  by_cases z : y = s.2.1
  · subst z
    obtain ⟨k', h'⟩ := add_move s (add_keep s K s.1 x ha hx) k m hk
    exact ⟨k', x, h'⟩
  · exact ⟨k, y, add_keep s k m y hk z⟩
theorem acyc_nil : Acyc [] := fun m => ⟨1, m, rfl⟩
end
structure BkOk (b : Bk) : Prop where
  e0 : 1 ≤ b.1
  e1 : b.1 ≤ 60
  n0 : 1 ≤ b.2.1
  n1 : b.2.1 ≤ 10
  sl : b.2.2.1.length ≤ 4
  so : ∀ s ∈ b.2.2.1, SpOk b.1 b.2.1 s
  nd : (b.2.2.1.map (·.2.1)).Nodup
  ac : Acyc b.2.2.1
  bl : b.2.2.2.length ≤ 30
  bo : ∀ s ∈ b.2.2.2, BdOk b.2.1 s
end Law

/-! marks put later by arcs, in plain words -/
namespace Law
open PySem L2 DL
/-- from a, to b, by w: the hour of b is at most w more than that of a -/
abbrev Arc := Int × Int × Int
def hv (hs : List Int) (v : Int) : Int := hs.getD v.toNat 0
def up (hs : List Int) (a : Arc) : List Int := if hv hs a.1 < hv hs a.2.1 - a.2.2 then hs.set a.1.toNat (hv hs a.2.1 - a.2.2) else hs
def pass (hs : List Int) (arcs : List Arc) : List Int := arcs.foldl up hs
def InR (n : Nat) (a : Arc) : Prop := 0 ≤ a.1 ∧ a.1 < n ∧ 0 ≤ a.2.1 ∧ a.2.1 < n
def Holds (g : Int → Int) (a : Arc) : Prop := g a.2.1 ≤ g a.1 + a.2.2
theorem hv_set {hs : List Int} {u v x : Int} (hu : 0 ≤ u) (hv0 : 0 ≤ v) (hl : u < hs.length) : hv (hs.set u.toNat x) v = if v = u then x else hv hs v := by
  unfold hv
  rw [List.getD_eq_getElem?_getD, List.getD_eq_getElem?_getD]
  by_cases h : v = u
  · subst h
    rw [List.getElem?_set_self (by omega), if_pos rfl]; rfl
  · rw [List.getElem?_set_ne (by omega), if_neg h]
theorem up_len (hs : List Int) (a : Arc) : (up hs a).length = hs.length := by
  unfold up; split <;> simp
theorem pass_len : ∀ (arcs : List Arc) (hs : List Int), (pass hs arcs).length = hs.length
  | [], hs => rfl
  | a :: r, hs => by show (pass (up hs a) r).length = _; rw [pass_len r, up_len]
section
variable {n : Nat}
theorem hv_up {hs : List Int} {a : Arc} {v : Int} (hl : hs.length = n) (ha : InR n a) (h0 : 0 ≤ v) : hv (up hs a) v = if v = a.1 ∧ hv hs a.1 < hv hs a.2.1 - a.2.2 then hv hs a.2.1 - a.2.2 else hv hs v := by
  unfold up
  split
  · rename_i hc
    rw [hv_set ha.1 h0 (by rw [hl]; exact ha.2.1)]
    by_cases h : v = a.1
    · rw [if_pos h, if_pos ⟨h, hc⟩]
    · rw [if_neg h, if_neg (fun z => h z.1)]
  · rename_i hc
    rw [if_neg (fun z => hc z.2)]
theorem up_mono {hs : List Int} {a : Arc} {v : Int} (hl : hs.length = n) (ha : InR n a) (h0 : 0 ≤ v) : hv hs v ≤ hv (up hs a) v := by
  rw [hv_up hl ha h0]
  split
  · rename_i h; rw [h.1]; omega
  · exact Int.le_refl _
theorem pass_mono : ∀ {arcs : List Arc} {hs : List Int} {v : Int}, hs.length = n → (∀ a ∈ arcs, InR n a) → 0 ≤ v → hv hs v ≤ hv (pass hs arcs) v
  | [], hs, v, _, _, _ => Int.le_refl _
  | a :: r, hs, v, hl, ha, h0 => by
    have h1 := up_mono hl (ha a List.mem_cons_self) h0
    have h2 := pass_mono (hs := up hs a) (by rw [up_len]; exact hl) (fun x hx => ha x (List.mem_cons_of_mem _ hx)) h0
    exact Int.le_trans h1 h2
def Below (n : Nat) (hs : List Int) (g : Int → Int) : Prop := ∀ v : Int, 0 ≤ v → v < n → hv hs v ≤ g v
theorem up_below {hs : List Int} {a : Arc} {g : Int → Int} (hl : hs.length = n) (ha : InR n a) (hg : Holds g a) (h : Below n hs g) : Below n (up hs a) g := fun v v0 v1 => by
  rw [hv_up hl ha v0]
  split
  · rename_i hc
    have := h a.2.1 ha.2.2.1 ha.2.2.2
    unfold Holds at hg
    rw [hc.1]; omega
  · exact h v v0 v1
theorem pass_below : ∀ {arcs : List Arc} {hs : List Int} {g : Int → Int}, hs.length = n → (∀ a ∈ arcs, InR n a) → (∀ a ∈ arcs, Holds g a) → Below n hs g → Below n (pass hs arcs) g
  | [], hs, g, _, _, _, h => h
  | a :: r, hs, g, hl, ha, hg, h => pass_below (hs := up hs a) (by rw [up_len]; exact hl) (fun x hx => ha x (List.mem_cons_of_mem _ hx)) (fun x hx => hg x (List.mem_cons_of_mem _ hx)) (up_below hl (ha a List.mem_cons_self) (hg a List.mem_cons_self) h)
/-- does an arc ask for more? -/
def Asks (hs : List Int) (a : Arc) : Prop := hv hs a.1 < hv hs a.2.1 - a.2.2
theorem up_same' {hs : List Int} {a : Arc} (h : ¬ Asks hs a) : up hs a = hs := by unfold Asks at h; unfold up; rw [if_neg h]
theorem pass_same : ∀ {arcs : List Arc} {hs : List Int}, (∀ a ∈ arcs, ¬ Asks hs a) → pass hs arcs = hs
  | [], hs, _ => rfl
  | a :: r, hs, h => by
    show pass (up hs a) r = hs
    rw [up_same' (h a List.mem_cons_self)]
    exact pass_same fun x hx => h x (List.mem_cons_of_mem _ hx)
theorem holds_of {hs : List Int} {a : Arc} (h : ¬ Asks hs a) : Holds (hv hs) a := by unfold Asks at h; unfold Holds; omega
/-- behind a pass in which an arc stands, it is met by what its end was ahead of the pass -/
theorem pass_met : ∀ {arcs : List Arc} {hs : List Int} {a : Arc}, hs.length = n → (∀ x ∈ arcs, InR n x) → a ∈ arcs → hv hs a.2.1 - a.2.2 ≤ hv (pass hs arcs) a.1
  | [], hs, a, _, _, h => by simp at h
  | b :: r, hs, a, hl, hr, h => by
    have hb := hr b List.mem_cons_self
    have hr' : ∀ x ∈ r, InR n x := fun x hx => hr x (List.mem_cons_of_mem _ hx)
    have hl' : (up hs b).length = n := by rw [up_len]; exact hl
    have ha := hr a h
    show hv hs a.2.1 - a.2.2 ≤ hv (pass (up hs b) r) a.1
    rcases List.mem_cons.mp h with rfl | h
    · have h1 : hv hs a.2.1 - a.2.2 ≤ hv (up hs a) a.1 := by
        rw [hv_up hl hb hb.1]
        by_cases z : hv hs a.1 < hv hs a.2.1 - a.2.2
        · rw [if_pos ⟨rfl, z⟩]; exact Int.le_refl _
        · rw [if_neg (fun y => z y.2)]; omega
      exact Int.le_trans h1 (pass_mono hl' hr' hb.1)
    · have h1 := up_mono (v := a.2.1) hl hb ha.2.2.1
      have h2 := pass_met hl' hr' h
      omega
/-- the least hours by which all arcs hold -/
structure Least (n : Nat) (arcs : List Arc) (g : Int → Int) : Prop where
  pos : ∀ v : Int, 0 ≤ v → v < n → 0 ≤ g v
  ok : ∀ a ∈ arcs, Holds g a
  le : ∀ f : Int → Int, (∀ v : Int, 0 ≤ v → v < n → 0 ≤ f v) → (∀ a ∈ arcs, Holds f a) → ∀ v : Int, 0 ≤ v → v < n → g v ≤ f v
/-- how many marks have their hours -/
def done (n : Nat) (hs : List Int) (g : Int → Int) : Nat := ((irange 0 n).filter fun v => decide (hv hs v = g v)).length
theorem step_more {arcs : List Arc} {g : Int → Int} {hs : List Int} (hl : hs.length = n) (hr : ∀ a ∈ arcs, InR n a) (hg : Least n arcs g) (hb : Below n hs g) (h0 : ∀ v : Int, 0 ≤ v → v < n → 0 ≤ hv hs v) (hx : ∃ v : Int, 0 ≤ v ∧ v < n ∧ hv hs v ≠ g v) :
    ∃ v : Int, 0 ≤ v ∧ v < n ∧ hv hs v ≠ g v ∧ hv (pass hs arcs) v = g v := by
  -- else all that are not done could be an hour earlier
  refine Classical.byContradiction fun hno => ?_
  have hb' := pass_below hl hr hg.ok hb
  obtain ⟨x, x0, x1, xne⟩ := hx
  have key : ∀ a ∈ arcs, hv hs a.1 ≠ g a.1 → hv hs a.2.1 = g a.2.1 → g a.2.1 - a.2.2 < g a.1 := fun a ha h1 h2 => by
    have hra := hr a ha
    have m := pass_met hl hr ha
    rw [h2] at m
    have l := hb' a.1 hra.1 hra.2.1
    have hgo := hg.ok a ha
    unfold Holds at hgo
    have : hv (pass hs arcs) a.1 ≠ g a.1 := fun e => hno ⟨a.1, hra.1, hra.2.1, h1, e⟩
    omega
  let f : Int → Int := fun v => if hv hs v = g v then g v else g v - 1
  have hf := hg.le f (fun v v0 v1 => by
    show 0 ≤ (if hv hs v = g v then g v else g v - 1)
    have := hg.pos v v0 v1
    have := hb v v0 v1
    have := h0 v v0 v1
    split
    · omega
    · omega) (fun a ha => by
    have hra := hr a ha
    have hgo := hg.ok a ha
    unfold Holds at hgo ⊢
    show (if hv hs a.2.1 = g a.2.1 then g a.2.1 else g a.2.1 - 1) ≤ (if hv hs a.1 = g a.1 then g a.1 else g a.1 - 1) + a.2.2
    by_cases c1 : hv hs a.1 = g a.1
    · rw [if_pos c1]; split <;> omega
    · rw [if_neg c1]
      by_cases c2 : hv hs a.2.1 = g a.2.1
      · rw [if_pos c2]; have := key a ha c1 c2; omega
      · rw [if_neg c2]; omega) x x0 x1
  have e : f x = g x - 1 := by show (if hv hs x = g x then g x else g x - 1) = _; rw [if_neg xne]
  omega
theorem filter_lt {α : Type} {p q : α → Bool} : ∀ {l : List α}, (∀ x ∈ l, p x = true → q x = true) → (∃ x ∈ l, p x = false ∧ q x = true) → (l.filter p).length < (l.filter q).length
  | [], _, h => by obtain ⟨x, hx, _⟩ := h; simp at hx
  | y :: r, h1, h2 => by
    have hle : (r.filter p).length ≤ (r.filter q).length := by
      clear h2
      have h1' : ∀ x ∈ r, p x = true → q x = true := fun x hx => h1 x (List.mem_cons_of_mem _ hx)
      clear h1
      induction r with
      | nil => simp
      | cons z r ih =>
        have := ih fun x hx => h1' x (List.mem_cons_of_mem _ hx)
        have hz := h1' z List.mem_cons_self
        rw [List.filter_cons, List.filter_cons]
        cases hp : p z with
        | true => rw [hz hp]; simpa using this
        | false => cases q z <;> simp <;> omega
    obtain ⟨x, hx, e1, e2⟩ := h2
    rw [List.filter_cons, List.filter_cons]
    rcases List.mem_cons.mp hx with rfl | hx
    · rw [e1, e2]; simp; omega
    · have := filter_lt (l := r) (fun z hz => h1 z (List.mem_cons_of_mem _ hz)) ⟨x, hx, e1, e2⟩
      cases hp : p y with
      | true => rw [h1 y List.mem_cons_self hp]; simpa using this
      | false => cases q y <;> simp <;> omega
theorem done_more {arcs : List Arc} {g : Int → Int} {hs : List Int} (hl : hs.length = n) (hr : ∀ a ∈ arcs, InR n a) (hg : Least n arcs g) (hb : Below n hs g) (h0 : ∀ v : Int, 0 ≤ v → v < n → 0 ≤ hv hs v) (hx : ∃ v : Int, 0 ≤ v ∧ v < n ∧ hv hs v ≠ g v) : done n hs g < done n (pass hs arcs) g := by
  obtain ⟨v, v0, v1, e1, e2⟩ := step_more hl hr hg hb h0 hx
  refine filter_lt (fun u hu h => ?_) ⟨v, mem_irange.2 ⟨v0, v1⟩, by simpa using e1, by simpa using e2⟩
  have hm := mem_irange.1 hu
  simp only [decide_eq_true_eq] at h ⊢
  have l1 := pass_mono (hs := hs) (v := u) hl hr hm.1
  have l2 := pass_below hl hr hg.ok hb u hm.1 hm.2
  omega
theorem done_le (hs : List Int) (g : Int → Int) : done n hs g ≤ n := by
  unfold done
  refine Nat.le_trans (List.length_filter_le _ _) ?_
  rw [irange_len]; omega
def passes (arcs : List Arc) : Nat → List Int → List Int
  | 0, hs => hs
  | k + 1, hs => passes arcs k (pass hs arcs)
theorem passes_len (arcs : List Arc) : ∀ (k : Nat) (hs : List Int), (passes arcs k hs).length = hs.length
  | 0, hs => rfl
  | k + 1, hs => by rw [passes, passes_len arcs k, pass_len]
/-- all that is so of the hours so far -/
structure Run (n : Nat) (arcs : List Arc) (hs : List Int) : Prop where
  len : hs.length = n
  pos : ∀ v : Int, 0 ≤ v → v < n → 0 ≤ hv hs v
  below : ∀ f : Int → Int, (∀ v : Int, 0 ≤ v → v < n → 0 ≤ f v) → (∀ a ∈ arcs, Holds f a) → Below n hs f
theorem Run.zero (n : Nat) (arcs : List Arc) : Run n arcs (List.replicate n 0) := by
  have z : ∀ v : Int, hv (List.replicate n 0) v = 0 := fun v => by
    unfold hv
    rw [List.getD_eq_getElem?_getD, List.getElem?_replicate]; split <;> rfl
  exact ⟨by simp, fun v _ _ => by rw [z]; exact Int.le_refl _, fun f hf _ v v0 v1 => by rw [z]; exact hf v v0 v1⟩
theorem Run.pass {arcs : List Arc} {hs : List Int} (h : Run n arcs hs) (hr : ∀ a ∈ arcs, InR n a) : Run n arcs (pass hs arcs) :=
  ⟨by rw [pass_len]; exact h.len, fun v v0 v1 => Int.le_trans (h.pos v v0 v1) (pass_mono h.len hr v0), fun f hf ho => pass_below h.len hr ho (h.below f hf ho)⟩
theorem Run.passes {arcs : List Arc} (hr : ∀ a ∈ arcs, InR n a) : ∀ (k : Nat) {hs : List Int}, Run n arcs hs → Run n arcs (passes arcs k hs)
  | 0, _, h => h
  | k + 1, _, h => Run.passes hr k (h.pass hr)
/-- hours that no arc asks to be later are the least ones -/
theorem Run.least {arcs : List Arc} {hs : List Int} (h : Run n arcs hs) (hno : ∀ a ∈ arcs, ¬ Asks hs a) : Least n arcs (hv hs) :=
  ⟨h.pos, fun a ha => holds_of (hno a ha), fun f hf ho => h.below f hf ho⟩
/-- where there are least hours they are come to in n passes -/
theorem settle {arcs : List Arc} (hr : ∀ a ∈ arcs, InR n a) {g : Int → Int} (hg : Least n arcs g) : ∀ (k : Nat) {hs : List Int}, Run n arcs hs → n ≤ done n hs g + k → ∀ a ∈ arcs, ¬ Asks (passes arcs k hs) a
  | k, hs, h, hk => by
    have hb := h.below g hg.pos hg.ok
    by_cases hx : ∃ v : Int, 0 ≤ v ∧ v < n ∧ hv hs v ≠ g v
    · cases k with
      | zero =>
        exfalso
        obtain ⟨v, v0, v1, vne⟩ := hx
        have : done n hs g < n := by
          unfold done
          have := filter_lt (l := irange 0 (n : Int)) (p := fun v => decide (hv hs v = g v)) (q := fun _ => true) (fun _ _ _ => rfl) ⟨v, mem_irange.2 ⟨v0, v1⟩, by simpa using vne, rfl⟩
          rw [show (irange 0 (n : Int)).filter (fun _ => true) = irange 0 (n : Int) from List.filter_eq_self.mpr fun _ _ => rfl, irange_len] at this
          omega
        omega
      | succ k =>
        have := done_more h.len hr hg hb h.pos hx
        exact settle hr hg k (h.pass hr) (by omega)
    · have he : ∀ v : Int, 0 ≤ v → v < n → hv hs v = g v := fun v v0 v1 => Classical.byContradiction fun z => hx ⟨v, v0, v1, z⟩
      have hno : ∀ a ∈ arcs, ¬ Asks hs a := fun a ha z => by
        have hra := hr a ha
        have := hg.ok a ha
        unfold Holds at this
        unfold Asks at z
        rw [he _ hra.1 hra.2.1, he _ hra.2.2.1 hra.2.2.2] at z
        omega
      have hs' : ∀ k, Law.passes arcs k hs = hs := fun k => by
        induction k with
        | zero => rfl
        | succ k ih => rw [Law.passes, pass_same hno, ih]
      rw [hs' k]; exact hno
end
end Law

/-! marks put later, with the ways by which they were put, and the ring that they lead round -/
namespace Law
open PySem L2 DL
variable {β : Type}
abbrev ArcB (β : Type) := Int × Int × Int × β
def ar (x : ArcB β) : Arc := (x.1, x.2.1, x.2.2.1)
structure WI (n : Nat) (arcs : List (ArcB β)) (now : Nat) (t : Int → Int) (hs : List Int) (ws : List (Option Int)) : Prop where
  lh : hs.length = n
  lw : ws.length = n
  tl : ∀ v, t v < now
  fresh : ∀ (k i : Nat) x, arcs[i]? = some x → k * arcs.length + i < now → t x.2.1 < (k * arcs.length + i : Nat) → ¬ Asks hs (ar x)
  way : ∀ v : Int, 0 ≤ v → v < n → 0 ≤ t v → ∃ (i : Nat) (x : ArcB β), ws[v.toNat]? = some (some (i : Int)) ∧ arcs[i]? = some x ∧ x.1 = v ∧ hv hs v + x.2.2.1 ≤ hv hs x.2.1 ∧ (hv hs v + x.2.2.1 < hv hs x.2.1 ∨ t x.2.1 < t v) ∧ ((arcs.length : Int) ≤ t v → t v - arcs.length ≤ t x.2.1)
theorem WI.zero (n : Nat) (arcs : List (ArcB β)) : WI n arcs 0 (fun _ => -1) (List.replicate n 0) (List.replicate n none) :=
  ⟨by simp, by simp, fun v => by simp, fun k i x _ h => absurd h (Nat.not_lt_zero _), fun v _ _ h => by simp at h⟩
section
variable {n : Nat} {arcs : List (ArcB β)} {now p j : Nat} {t : Int → Int} {hs : List Int} {ws : List (Option Int)} {x : ArcB β}
theorem WI.stay (h : WI n arcs now t hs ws) (hj : arcs[j]? = some x) (hnow : now = p * arcs.length + j) (hno : ¬ Asks hs (ar x)) : WI n arcs (now + 1) t hs ws := by
  refine ⟨h.lh, h.lw, fun v => by have := h.tl v; omega, fun k i y hi hlt ht => ?_, h.way⟩
  by_cases e : k * arcs.length + i < now
  · exact h.fresh k i y hi e ht
  · have hi' : i < arcs.length := (List.getElem?_eq_some_iff.mp hi).1
    have hj' : j < arcs.length := (List.getElem?_eq_some_iff.mp hj).1
    have e2 : k * arcs.length + i = p * arcs.length + j := by omega
    have e3 : i = j := by
      have := congrArg (· % arcs.length) e2
      simp only [Nat.mul_comm _ arcs.length, Nat.mul_add_mod, Nat.mod_eq_of_lt hi', Nat.mod_eq_of_lt hj'] at this
      exact this
    rw [e3, hj] at hi
    injection hi with hi
    rw [← hi]; exact hno
theorem WI.move (h : WI n arcs now t hs ws) (hj : arcs[j]? = some x) (hnow : now = p * arcs.length + j) (hra : ∀ y ∈ arcs, InR n (ar y)) (ha : Asks hs (ar x)) :
    WI n arcs (now + 1) (fun v => if v = x.1 then (now : Int) else t v) (up hs (ar x)) (ws.set x.1.toNat (some (j : Int))) := by
  have hr : InR n (ar x) := hra x (List.mem_of_getElem? hj)
  have hra' : 0 ≤ x.1 := hr.1
  have hrb : x.1 < n := hr.2.1
  have hrc : 0 ≤ x.2.1 := hr.2.2.1
  have hrd : x.2.1 < n := hr.2.2.2
  have hup : ∀ v, 0 ≤ v → hv (up hs (ar x)) v = if v = x.1 then hv hs x.2.1 - x.2.2.1 else hv hs v := fun v v0 => by
    rw [hv_up h.lh hr v0]
    by_cases e : v = x.1
    · rw [if_pos e, if_pos ⟨e, ha⟩]; rfl
    · rw [if_neg e, if_neg (fun z => e z.1)]
  have hself : hv hs x.1 < hv hs x.2.1 - x.2.2.1 := ha
  have hmono : ∀ v, 0 ≤ v → hv hs v ≤ hv (up hs (ar x)) v := fun v v0 => up_mono h.lh hr v0
  have hj' : j < arcs.length := (List.getElem?_eq_some_iff.mp hj).1
  refine ⟨by rw [up_len]; exact h.lh, by rw [List.length_set]; exact h.lw, fun v => ?_, fun k i y hi hlt ht => ?_, fun v v0 v1 hv' => ?_⟩
  · show (if v = x.1 then (now : Int) else t v) < ((now + 1 : Nat) : Int)
    have := h.tl v
    split <;> omega
  · have hi' : i < arcs.length := (List.getElem?_eq_some_iff.mp hi).1
    have hry : InR n (ar y) := hra y (List.mem_of_getElem? hi)
    have hy0 : 0 ≤ y.2.1 := hry.2.2.1
    have hy1 : 0 ≤ y.1 := hry.1
    replace ht : (if y.2.1 = x.1 then (now : Int) else t y.2.1) < (k * arcs.length + i : Nat) := ht
    by_cases e : y.2.1 = x.1
    · rw [if_pos e] at ht; omega
    rw [if_neg e] at ht
    show ¬ (hv (up hs (ar x)) y.1 < hv (up hs (ar x)) y.2.1 - y.2.2.1)
    rw [hup _ hy0, if_neg e]
    by_cases e2 : k * arcs.length + i < now
    · have := h.fresh k i y hi e2 ht
      replace this : ¬ (hv hs y.1 < hv hs y.2.1 - y.2.2.1) := this
      have := hmono y.1 hy1
      omega
    · have e2 : k * arcs.length + i = p * arcs.length + j := by omega
      have e3 : i = j := by
        have := congrArg (· % arcs.length) e2
        simp only [Nat.mul_comm _ arcs.length, Nat.mul_add_mod, Nat.mod_eq_of_lt hi', Nat.mod_eq_of_lt hj'] at this
        exact this
      rw [e3, hj] at hi
      injection hi with hi
      subst hi
      rw [hup _ hra', if_pos rfl]; omega
  · by_cases e : v = x.1
    · subst e
      refine ⟨j, x, ?_, hj, rfl, ?_, ?_, ?_⟩
      · rw [List.getElem?_set_self (by rw [h.lw]; omega)]
      · rw [hup x.1 hra', if_pos rfl]
        have := hmono x.2.1 hrc
        omega
      · by_cases e2 : x.2.1 = x.1
        · refine .inl ?_
          rw [hup x.1 hra', if_pos rfl, hup x.2.1 hrc, if_pos e2]
          rw [e2] at hself ⊢; omega
        · refine .inr ?_
          show (if x.2.1 = x.1 then (now : Int) else t x.2.1) < (if x.1 = x.1 then (now : Int) else t x.1)
          rw [if_neg e2, if_pos rfl]; exact h.tl _
      · show (arcs.length : Int) ≤ (if x.1 = x.1 then (now : Int) else t x.1) → (if x.1 = x.1 then (now : Int) else t x.1) - arcs.length ≤ (if x.2.1 = x.1 then (now : Int) else t x.2.1)
        rw [if_pos rfl]
        intro hL
        split
        · omega
        · refine Classical.byContradiction fun hc => ?_
          cases p with
          | zero => omega
          | succ p =>
            have e3 : (p + 1) * arcs.length = p * arcs.length + arcs.length := Nat.succ_mul _ _
            refine h.fresh p j x hj (by omega) ?_ ha
            omega
    · have hv2 : 0 ≤ t v := by
        have : 0 ≤ (if v = x.1 then (now : Int) else t v) := hv'
        rwa [if_neg e] at this
      obtain ⟨i, y, h1, h2, h3, h4, h5, h6⟩ := h.way v v0 v1 hv2
      have hry : InR n (ar y) := hra y (List.mem_of_getElem? h2)
      have hy0 : 0 ≤ y.2.1 := hry.2.2.1
      have hm := hmono y.2.1 hy0
      have hvv : hv (up hs (ar x)) v = hv hs v := by rw [hup v v0, if_neg e]
      refine ⟨i, y, ?_, h2, h3, ?_, ?_, ?_⟩
      · rw [List.getElem?_set_ne (by omega)]; exact h1
      · rw [hvv]; omega
      · by_cases e2 : y.2.1 = x.1
        · refine .inl ?_
          rw [hvv, hup y.2.1 hy0, if_pos e2]
          rw [e2] at h4
          omega
        · show _ ∨ (if y.2.1 = x.1 then (now : Int) else t y.2.1) < (if v = x.1 then (now : Int) else t v)
          rw [if_neg e2, if_neg e]
          rcases h5 with h5 | h5
          · exact .inl (by rw [hvv]; omega)
          · exact .inr h5
      · show (arcs.length : Int) ≤ (if v = x.1 then (now : Int) else t v) → (if v = x.1 then (now : Int) else t v) - arcs.length ≤ (if y.2.1 = x.1 then (now : Int) else t y.2.1)
        rw [if_neg e]
        intro hL
        have := h6 hL
        have := h.tl v
        split <;> omega
end
/-- one arc of a pass, with its number -/
def rs (s : List Int × List (Option Int) × Option Int) (x : Int × ArcB β) : List Int × List (Option Int) × Option Int :=
  if hv s.1 x.2.1 < hv s.1 x.2.2.1 - x.2.2.2.1 then (s.1.set x.2.1.toNat (hv s.1 x.2.2.1 - x.2.2.2.1), s.2.1.set x.2.1.toNat (some x.1), some x.2.1) else s
/-- a pass: what is so behind the arcs gone through -/
structure PI (n : Nat) (arcs : List (ArcB β)) (p j : Nat) (hs0 : List Int) (s : List Int × List (Option Int) × Option Int) : Prop where
  wi : ∃ t, WI n arcs (p * arcs.length + j) t s.1 s.2.1 ∧ ∀ v, s.2.2 = some v → 0 ≤ v ∧ v < n ∧ ((p * arcs.length : Nat) : Int) ≤ t v
  same : s.2.2 = none → s.1 = hs0 ∧ ∀ i x, i < j → arcs[i]? = some x → ¬ Asks hs0 (ar x)
  none_ : (∀ x ∈ arcs, ¬ Asks hs0 (ar x)) → s.2.2 = none
theorem PI.step {n : Nat} {arcs : List (ArcB β)} {p j : Nat} {hs0 : List Int} {s} {x : ArcB β} (h : PI n arcs p j hs0 s) (hra : ∀ y ∈ arcs, InR n (ar y)) (hj : arcs[j]? = some x) : PI n arcs p (j + 1) hs0 (rs s ((j : Int), x)) := by
  obtain ⟨t, hw, hl⟩ := h.wi
  have hr : InR n (ar x) := hra x (List.mem_of_getElem? hj)
  by_cases ha : Asks s.1 (ar x)
  · rw [show rs s ((j : Int), x) = (s.1.set x.1.toNat (hv s.1 x.2.1 - x.2.2.1), s.2.1.set x.1.toNat (some (j : Int)), some x.1) from if_pos ha]
    have hup : s.1.set x.1.toNat (hv s.1 x.2.1 - x.2.2.1) = up s.1 (ar x) := (if_pos ha).symm
    refine ⟨⟨fun v => if v = x.1 then ((p * arcs.length + j : Nat) : Int) else t v, ?_, ?_⟩, ?_, ?_⟩
    · show WI n arcs (p * arcs.length + j + 1) _ (s.1.set x.1.toNat (hv s.1 x.2.1 - x.2.2.1)) _
      rw [hup]; exact hw.move hj rfl hra ha
    · intro v hv'
      injection hv' with hv'
      replace hv' : x.1 = v := hv'
      subst hv'
      refine ⟨hr.1, hr.2.1, ?_⟩
      show _ ≤ (if x.1 = x.1 then ((p * arcs.length + j : Nat) : Int) else t x.1)
      rw [if_pos rfl]; omega
    · intro z; cases z
    · intro z
      exfalso
      have := h.same (h.none_ z)
      rw [this.1] at ha
      exact z x (List.mem_of_getElem? hj) ha
  · rw [show rs s ((j : Int), x) = s from if_neg ha]
    refine ⟨⟨t, hw.stay hj rfl ha, hl⟩, fun z => ⟨(h.same z).1, fun i y hi hy => ?_⟩, h.none_⟩
    by_cases e : i < j
    · exact (h.same z).2 i y e hy
    · have : i = j := by omega
      rw [this, hj] at hy
      injection hy with hy
      rw [← hy, ← (h.same z).1]; exact ha
theorem PI.fold {n : Nat} {arcs : List (ArcB β)} {p : Nat} {hs0 : List Int} (hra : ∀ y ∈ arcs, InR n (ar y)) : ∀ (r d : List (ArcB β)) (s), arcs = d ++ r → PI n arcs p d.length hs0 s → PI n arcs p arcs.length hs0 ((enumT (d.length : Int) r).foldl rs s)
  | [], d, s, e, h => by
    have : arcs.length = d.length := by rw [e]; simp
    rw [this]; exact h
  | x :: r, d, s, e, h => by
    have hj : arcs[d.length]? = some x := by rw [e]; simp
    have h2 := h.step hra hj
    have := PI.fold hra r (d ++ [x]) (rs s ((d.length : Int), x)) (by rw [e]; simp) (by rw [List.length_append]; exact h2)
    rw [List.length_append] at this
    exact this
/-- behind a whole pass -/
theorem PI.pass {n : Nat} {arcs : List (ArcB β)} {p : Nat} {hs : List Int} {ws : List (Option Int)} {t : Int → Int} (hra : ∀ y ∈ arcs, InR n (ar y)) (h : WI n arcs (p * arcs.length) t hs ws) : PI n arcs p arcs.length hs ((enumT 0 arcs).foldl rs (hs, ws, none)) :=
  PI.fold hra arcs [] _ rfl ⟨⟨t, h, fun v z => by cases z⟩, fun _ => ⟨rfl, fun i x z => absurd z (Nat.not_lt_zero _)⟩, fun _ => rfl⟩
theorem pig : ∀ (n : Nat) (f : Nat → Nat), (∀ k, k ≤ n → f k < n) → ∃ i j, i < j ∧ j ≤ n ∧ f i = f j
  | 0, f, h => absurd (h 0 (Nat.le_refl _)) (Nat.not_lt_zero _)
  | n + 1, f, h => by
    by_cases hx : ∃ i, i ≤ n ∧ f i = f (n + 1)
    · obtain ⟨i, h1, h2⟩ := hx; exact ⟨i, n + 1, by omega, Nat.le_refl _, h2⟩
    have hx' : ∀ i, i ≤ n → f i ≠ f (n + 1) := fun i h1 h2 => hx ⟨i, h1, h2⟩
    have hc := h (n + 1) (Nat.le_refl _)
    obtain ⟨i, j, h1, h2, h3⟩ := pig n (fun k => if f k = n then f (n + 1) else f k) (fun k hk => by
      have := h k (by omega)
      have := hx' k hk
      show (if f k = n then f (n + 1) else f k) < n
      split <;> omega)
    refine ⟨i, j, h1, by omega, ?_⟩
    have a1 := hx' i (by omega)
    have a2 := hx' j h2
    replace h3 : (if f i = n then f (n + 1) else f i) = (if f j = n then f (n + 1) else f j) := h3
    split at h3 <;> split at h3 <;> omega
/-- the arc by which a mark was put -/
def wayAt (arcs : List (ArcB β)) (ws : List (Option Int)) (v : Int) : Option (ArcB β) := (ws[v.toNat]?).join.bind fun i => arcs[i.toNat]?
def nxt (arcs : List (ArcB β)) (ws : List (Option Int)) (v : Int) : Int := ((wayAt arcs ws v).map fun x => x.2.1).getD 0
def goN (f : Int → Int) : Nat → Int → Int
  | 0, v => v
  | k + 1, v => goN f k (f v)
theorem goN_add (f : Int → Int) : ∀ (a b : Nat) (v : Int), goN f (a + b) v = goN f b (goN f a v)
  | 0, b, v => by rw [Nat.zero_add]; rfl
  | a + 1, b, v => by rw [show a + 1 + b = (a + b) + 1 by omega]; exact goN_add f a b (f v)
theorem goN_succ (f : Int → Int) (k : Nat) (v : Int) : goN f (k + 1) v = f (goN f k v) := goN_add f k 1 v
/-- what is so of a mark that was put -/
structure Good (n : Nat) (arcs : List (ArcB β)) (ws : List (Option Int)) (hs : List Int) (t : Int → Int) (v : Int) : Prop where
  r0 : 0 ≤ v
  r1 : v < n
  at_ : ∃ (i : Nat) (x : ArcB β), ws[v.toNat]? = some (some (i : Int)) ∧ arcs[i]? = some x ∧ wayAt arcs ws v = some x ∧ nxt arcs ws v = x.2.1 ∧ x.1 = v ∧ hv hs v + x.2.2.1 ≤ hv hs x.2.1 ∧ (hv hs v + x.2.2.1 < hv hs x.2.1 ∨ t x.2.1 < t v)
section
variable {n : Nat} {arcs : List (ArcB β)} {now : Nat} {t : Int → Int} {hs : List Int} {ws : List (Option Int)}
theorem WI.good (h : WI n arcs now t hs ws) {v : Int} (v0 : 0 ≤ v) (v1 : v < n) (ht : 0 ≤ t v) : Good n arcs ws hs t v := by
  obtain ⟨i, x, h1, h2, h3, h4, h5, h6⟩ := h.way v v0 v1 ht
  have e : wayAt arcs ws v = some x := by unfold wayAt; rw [h1]; simpa using h2
  exact ⟨v0, v1, i, x, h1, h2, e, by unfold nxt; rw [e]; rfl, h3, h4, h5⟩
theorem WI.next (h : WI n arcs now t hs ws) (hra : ∀ y ∈ arcs, InR n (ar y)) {v : Int} (v0 : 0 ≤ v) (v1 : v < n) (ht : 0 ≤ t v) : 0 ≤ nxt arcs ws v ∧ nxt arcs ws v < n ∧ ((arcs.length : Int) ≤ t v → t v - arcs.length ≤ t (nxt arcs ws v)) := by
  obtain ⟨i, x, h1, h2, h3, h4, h5, h6⟩ := h.way v v0 v1 ht
  have e : wayAt arcs ws v = some x := by unfold wayAt; rw [h1]; simpa using h2
  have e2 : nxt arcs ws v = x.2.1 := by unfold nxt; rw [e]; rfl
  have := hra x (List.mem_of_getElem? h2)
  rw [e2]
  exact ⟨this.2.2.1, this.2.2.2, h6⟩
/-- the marks that the ways lead to -/
theorem WI.back (h : WI n arcs now t hs ws) (hra : ∀ y ∈ arcs, InR n (ar y)) {v : Int} (v0 : 0 ≤ v) (v1 : v < n) : ∀ (m k : Nat), ((m * arcs.length : Nat) : Int) ≤ t v → k ≤ m → 0 ≤ goN (nxt arcs ws) k v ∧ goN (nxt arcs ws) k v < n ∧ (((m - k) * arcs.length : Nat) : Int) ≤ t (goN (nxt arcs ws) k v)
  | m, 0, ht, _ => ⟨v0, v1, ht⟩
  | m, k + 1, ht, hk => by
    obtain ⟨a, b, c⟩ := WI.back h hra v0 v1 m k ht (by omega)
    have e : (m - k) * arcs.length = (m - (k + 1)) * arcs.length + arcs.length := by
      rw [show m - k = (m - (k + 1)) + 1 by omega]; exact Nat.succ_mul _ _
    obtain ⟨a', b', c'⟩ := h.next hra a b (by omega)
    rw [goN_succ]
    refine ⟨a', b', ?_⟩
    have := c' (by omega)
    omega
/-- and they come round -/
theorem WI.round (h : WI n arcs now t hs ws) (hra : ∀ y ∈ arcs, InR n (ar y)) {v : Int} (v0 : 0 ≤ v) (v1 : v < n) (ht : ((n * arcs.length : Nat) : Int) ≤ t v) :
    (∀ k, Good n arcs ws hs t (goN (nxt arcs ws) k v)) ∧ ∃ d, 0 < d ∧ d ≤ n ∧ goN (nxt arcs ws) d (goN (nxt arcs ws) n v) = goN (nxt arcs ws) n v := by
  have hb := fun k (hk : k ≤ n) => h.back hra v0 v1 n k ht hk
  obtain ⟨i, j, h1, h2, h3⟩ := pig n (fun k => (goN (nxt arcs ws) k v).toNat) (fun k hk => by
    have := hb k hk
    show (goN (nxt arcs ws) k v).toNat < n
    omega)
  have e : goN (nxt arcs ws) i v = goN (nxt arcs ws) j v := by
    have a := hb i (by omega)
    have b := hb j h2
    replace h3 : (goN (nxt arcs ws) i v).toNat = (goN (nxt arcs ws) j v).toNat := h3
    omega
  have per : ∀ k, j ≤ k → goN (nxt arcs ws) k v = goN (nxt arcs ws) (k - (j - i)) v := fun k hk => by
    rw [show k = j + (k - j) by omega, goN_add, ← e, ← goN_add]
    congr 1; omega
  refine ⟨?_, j - i, by omega, by omega, ?_⟩
  · intro k
    induction k using Nat.strongRecOn with
    | _ k ih =>
      by_cases hk : k ≤ n
      · obtain ⟨a, b, c⟩ := hb k hk
        exact h.good a b (by omega)
      · rw [per k (by omega)]; exact ih _ (by omega)
  · rw [← goN_add, per (n + (j - i)) (by omega)]
    congr 1; omega
end
def ringL (arcs : List (ArcB β)) (ws : List (Option Int)) : Nat → Int → List (ArcB β)
  | 0, _ => []
  | k + 1, v => match wayAt arcs ws v with
    | some x => x :: ringL arcs ws k x.2.1
    | none => []
def wsum (xs : List (ArcB β)) : Int := (xs.map fun x => x.2.2.1).sum
section
variable {n : Nat} {arcs : List (ArcB β)} {t : Int → Int} {hs : List Int} {ws : List (Option Int)}
theorem ringL_succ {v : Int} {x : ArcB β} (h : wayAt arcs ws v = some x) (k : Nat) : ringL arcs ws (k + 1) v = x :: ringL arcs ws k x.2.1 := by rw [ringL, h]
theorem good_next {v : Int} (h : ∀ k, Good n arcs ws hs t (goN (nxt arcs ws) k v)) {x : ArcB β} (e : nxt arcs ws v = x.2.1) : ∀ k, Good n arcs ws hs t (goN (nxt arcs ws) k x.2.1) := fun k => by
  have := h (k + 1); rw [← e]; exact this
theorem ringL_get : ∀ (k i : Nat) {v : Int}, (∀ k, Good n arcs ws hs t (goN (nxt arcs ws) k v)) → i < k → ∃ x, (ringL arcs ws k v)[i]? = some x ∧ x ∈ arcs ∧ x.1 = goN (nxt arcs ws) i v ∧ x.2.1 = goN (nxt arcs ws) (i + 1) v
  | 0, i, v, h, hi => absurd hi (Nat.not_lt_zero _)
  | k + 1, i, v, h, hi => by
    obtain ⟨j, x, h1, h2, h3, h4, h5, h6, h7⟩ := (show Good n arcs ws hs t v from h 0).at_
    rw [ringL_succ h3]
    cases i with
    | zero => exact ⟨x, rfl, List.mem_of_getElem? h2, h5, h4.symm⟩
    | succ i =>
      obtain ⟨y, a, b, c, d⟩ := ringL_get k i (good_next h h4) (by omega)
      refine ⟨y, by simpa using a, b, ?_, ?_⟩
      · rw [c]; show _ = goN (nxt arcs ws) i (nxt arcs ws v); rw [show nxt arcs ws v = x.2.1 from h4]
      · rw [d]; show _ = goN (nxt arcs ws) (i + 1) (nxt arcs ws v); rw [show nxt arcs ws v = x.2.1 from h4]
theorem ringL_len : ∀ (k : Nat) {v : Int}, (∀ k, Good n arcs ws hs t (goN (nxt arcs ws) k v)) → (ringL arcs ws k v).length = k
  | 0, v, h => rfl
  | k + 1, v, h => by
    obtain ⟨j, x, h1, h2, h3, h4, h5, h6, h7⟩ := (show Good n arcs ws hs t v from h 0).at_
    rw [ringL_succ h3, List.length_cons, ringL_len k (good_next h h4)]
theorem wsum_cons (x : ArcB β) (r) : wsum (x :: r) = x.2.2.1 + wsum r := by simp [wsum]
theorem ringL_le : ∀ (k : Nat) {v : Int}, (∀ k, Good n arcs ws hs t (goN (nxt arcs ws) k v)) → hv hs v + wsum (ringL arcs ws k v) ≤ hv hs (goN (nxt arcs ws) k v) ∧ (hv hs v + wsum (ringL arcs ws k v) < hv hs (goN (nxt arcs ws) k v) ∨ k = 0 ∨ t (goN (nxt arcs ws) k v) < t v)
  | 0, v, h => ⟨by simp [wsum, ringL, goN], .inr (.inl rfl)⟩
  | k + 1, v, h => by
    obtain ⟨j, x, h1, h2, h3, h4, h5, h6, h7⟩ := (show Good n arcs ws hs t v from h 0).at_
    obtain ⟨a, b⟩ := ringL_le k (good_next h h4)
    rw [ringL_succ h3, wsum_cons]
    show _ ≤ hv hs (goN (nxt arcs ws) k (nxt arcs ws v)) ∧ (_ < hv hs (goN (nxt arcs ws) k (nxt arcs ws v)) ∨ _ ∨ t (goN (nxt arcs ws) k (nxt arcs ws v)) < t v)
    rw [show nxt arcs ws v = x.2.1 from h4]
    replace h6 : hv hs v + x.2.2.1 ≤ hv hs x.2.1 := h6
    replace h7 : hv hs v + x.2.2.1 < hv hs x.2.1 ∨ t x.2.1 < t v := h7
    refine ⟨by omega, ?_⟩
    rcases h7 with h7 | h7
    · exact .inl (by omega)
    · rcases b with b | b | b
      · exact .inl (by omega)
      · subst b; exact .inr (.inr h7)
      · exact .inr (.inr (by omega))
theorem ringL_holds {f : Int → Int} (ho : ∀ x ∈ arcs, Holds f (ar x)) : ∀ (k : Nat) {v : Int}, (∀ k, Good n arcs ws hs t (goN (nxt arcs ws) k v)) → f (goN (nxt arcs ws) k v) ≤ f v + wsum (ringL arcs ws k v)
  | 0, v, h => by simp [wsum, ringL, goN]
  | k + 1, v, h => by
    obtain ⟨j, x, h1, h2, h3, h4, h5, h6, h7⟩ := (show Good n arcs ws hs t v from h 0).at_
    have a := ringL_holds ho k (good_next h h4)
    rw [ringL_succ h3, wsum_cons]
    show f (goN (nxt arcs ws) k (nxt arcs ws v)) ≤ _
    rw [show nxt arcs ws v = x.2.1 from h4]
    have b : f x.2.1 ≤ f x.1 + x.2.2.1 := ho x (List.mem_of_getElem? h2)
    rw [show x.1 = v from h5] at b
    omega
/-- the ring that is found: its sum is below 0, and no hours can hold -/
theorem ring_low {u : Int} (h : ∀ k, Good n arcs ws hs t (goN (nxt arcs ws) k u)) {d : Nat} (hd : 0 < d) (e : goN (nxt arcs ws) d u = u) : wsum (ringL arcs ws d u) < 0 := by
  obtain ⟨a, b⟩ := ringL_le d h
  rw [e] at a b
  omega
theorem ring_none {u : Int} (h : ∀ k, Good n arcs ws hs t (goN (nxt arcs ws) k u)) {d : Nat} (hd : 0 < d) (e : goN (nxt arcs ws) d u = u) : ¬ ∃ f, ∀ x ∈ arcs, Holds f (ar x) := fun ⟨f, hf⟩ => by
  have a := ring_low h hd e
  have b := ringL_holds hf d h
  rw [e] at b
  omega
/-- the first coming round -/
theorem first_round {f : Int → Int} {u : Int} {d : Nat} (hd : 0 < d) (e : goN f d u = u) : ∃ c, 0 < c ∧ c ≤ d ∧ goN f c u = u ∧ ∀ k, 0 < k → k < c → goN f k u ≠ u := by
  induction d using Nat.strongRecOn with
  | _ d ih =>
    by_cases hx : ∃ k, 0 < k ∧ k < d ∧ goN f k u = u
    · obtain ⟨k, k0, k1, k2⟩ := hx
      obtain ⟨c, c0, c1, c2, c3⟩ := ih k k1 k0 k2
      exact ⟨c, c0, by omega, c2, c3⟩
    · exact ⟨d, hd, Nat.le_refl _, e, fun k k0 k1 k2 => hx ⟨k, k0, k1, k2⟩⟩
end
/-- the hours are the least, and the first mark is at 0, if the arcs hold it ahead of the others -/
theorem Least.zero {n : Nat} {arcs : List Arc} {g : Int → Int} (h : Least n arcs g) (hn : 0 < n) (hr : ∀ a ∈ arcs, InR n a) (h0 : ∀ v : Int, 0 ≤ v → v < n → g 0 ≤ g v) : g 0 = 0 := by
  have a := h.pos 0 (Int.le_refl _) (by omega)
  have b := h.le (fun v => g v - g 0) (fun v v0 v1 => by have := h0 v v0 v1; show 0 ≤ g v - g 0; omega) (fun x hx => by
    have := h.ok x hx
    unfold Holds at this ⊢
    show g x.2.1 - g 0 ≤ g x.1 - g 0 + x.2.2
    omega) 0 (Int.le_refl _) (by omega)
  replace b : g 0 ≤ g 0 - g 0 := b
  omega
end Law

namespace Law
open PySem DL
def b_is_whole : Blk := (sRet (eAnd (eIsi "int" (eVar 0)) (eNot (eIsi "bool" (eVar 0)))))
def F_is_whole : Fn := mkFn 0 b_is_whole
def b_is_within : Blk := (sRet (eAnd (eCall 1 F_is_whole (aCons (eVar 0) aNil)) (eChain leD leD (eVar 1) (eVar 0) (eVar 2))))
def F_is_within : Fn := mkFn 0 b_is_within
def b_is_span : Blk := (sSeq (sIf (tOrE (tNotE (tTru (eIsi "tuple" (eVar 0)))) (tOf (eBin neD (eCB lenD (aCons (eVar 0) aNil)) (eC (.int 4))))) (sRet (eC (.bool false))) sNil) (sSeq (sAsg (eVar 0) (gTp 4 (gsCons (gNm 3) (gsCons (gNm 4) (gsCons (gNm 5) (gsCons (gNm 6) gsNil)))))) (sSeq (sIf (tOrE (tNotE (tTru (eCall 3 F_is_within (aCons (eVar 3) (aCons (eC (.int 0)) (aCons (eBin subD (eVar 2) (eC (.int 1))) aNil)))))) (tOrE (tNotE (tTru (eCall 3 F_is_within (aCons (eVar 4) (aCons (eC (.int 1)) (aCons (eBin subD (eVar 2) (eC (.int 1))) aNil)))))) (tOf (eBin eqD (eVar 3) (eVar 4))))) (sRet (eC (.bool false))) sNil) (sRet (eAnd (eCall 3 F_is_within (aCons (eVar 6) (aCons (eC (.int 1)) (aCons (eVar 1) aNil)))) (eCall 3 F_is_within (aCons (eVar 5) (aCons (eC (.int 1)) (aCons (eVar 6) aNil)))))))))
def F_is_span : Fn := mkFn 4 b_is_span
def b_is_bound : Blk := (sSeq (sIf (tOrE (tNotE (tTru (eIsi "tuple" (eVar 0)))) (tOf (eBin neD (eCB lenD (aCons (eVar 0) aNil)) (eC (.int 3))))) (sRet (eC (.bool false))) sNil) (sSeq (sAsg (eVar 0) (gTp 3 (gsCons (gNm 2) (gsCons (gNm 3) (gsCons (gNm 4) gsNil))))) (sSeq (sIf (tOrE (tNotE (tTru (eCall 3 F_is_within (aCons (eVar 2) (aCons (eC (.int 0)) (aCons (eBin subD (eVar 1) (eC (.int 1))) aNil)))))) (tOrE (tNotE (tTru (eCall 3 F_is_within (aCons (eVar 3) (aCons (eC (.int 0)) (aCons (eBin subD (eVar 1) (eC (.int 1))) aNil)))))) (tOf (eBin eqD (eVar 2) (eVar 3))))) (sRet (eC (.bool false))) sNil) (sRet (eCall 3 F_is_within (aCons (eVar 4) (aCons (eBin subD (eC (.int 0)) (eC (.int 60))) (aCons (eC (.int 60)) aNil))))))))
def F_is_bound : Fn := mkFn 3 b_is_bound
def spans_by_goal_L1 : Blk := (sPut setD (eVar 1) (eIx (eVar 3) (eC (.int 1))) (eVar 2))
def b_spans_by_goal : Blk := (sSeq (sSet 1 eDicM) (sSeq (sFor (itEnum (aCons (eVar 0) aNil)) (gTp 2 (gsCons (gNm 2) (gsCons (gNm 3) gsNil))) spans_by_goal_L1) (sRet (eFrz (eVar 1)))))
def F_spans_by_goal : Fn := mkFn 3 b_spans_by_goal
def way_from_T1 : Te := (tAndE (tOf (eBin inD (eVar 2) (eVar 1))) (tOf (eBin leD (eCB lenD (aCons (eVar 3) aNil)) (eCB lenD (aCons (eVar 0) aNil)))))
def way_from_W2 : Blk := (sSeq (sExpr (eApp (eVar 3) (eIx (eVar 1) (eVar 2)))) (sSet 2 (eIx (eIx (eVar 0) (eIx (eVar 1) (eVar 2))) (eC (.int 0)))))
def b_way_from : Blk := (sSeq (sSet 3 (eLstM aNil)) (sSeq (whileN way_from_T1 way_from_W2 fuelW) (sRet (eFrz (eVar 3)))))
def F_way_from : Fn := mkFn 1 b_way_from
def are_spans_E1 : Ex := (eCall 3 F_is_span (aCons (eVar 4) (aCons (eVar 1) (aCons (eVar 2) aNil))))
def are_spans_E2 : Ex := (eBin leD (eCB lenD (aCons (eCall 3 F_way_from (aCons (eVar 0) (aCons (eVar 3) (aCons (eVar 5) aNil)))) aNil)) (eCB lenD (aCons (eVar 0) aNil)))
def b_are_spans : Blk := (sSeq (sIf (tOrE (tNotE (tTru (eIsi "tuple" (eVar 0)))) (tOf (eBin gtD (eCB lenD (aCons (eVar 0) aNil)) (eC (.int 4))))) (sRet (eC (.bool false))) sNil) (sSeq (sIf (tNotE (tTru (eCB allBD (aCons (eLc (itSeq (eVar 0)) [4] (gNm 4) tYesE are_spans_E1) aNil)))) (sRet (eC (.bool false))) sNil) (sSeq (sSet 3 (eCall 1 F_spans_by_goal (aCons (eVar 0) aNil))) (sRet (eAnd (eBin eqD (eCB lenD (aCons (eVar 3) aNil)) (eCB lenD (aCons (eVar 0) aNil))) (eCB allBD (aCons (eLcK 3 [5] (gNm 5) tYesE are_spans_E2) aNil)))))))
def F_are_spans : Fn := mkFn 3 b_are_spans
def is_book_E1 : Ex := (eCall 2 F_is_bound (aCons (eVar 5) (aCons (eVar 2) aNil)))
def b_is_book : Blk := (sSeq (sIf (tOrE (tNotE (tTru (eIsi "tuple" (eVar 0)))) (tOf (eBin neD (eCB lenD (aCons (eVar 0) aNil)) (eC (.int 4))))) (sRet (eC (.bool false))) sNil) (sSeq (sAsg (eVar 0) (gTp 4 (gsCons (gNm 1) (gsCons (gNm 2) (gsCons (gNm 3) (gsCons (gNm 4) gsNil)))))) (sSeq (sIf (tOrE (tNotE (tTru (eCall 3 F_is_within (aCons (eVar 1) (aCons (eC (.int 1)) (aCons (eC (.int 60)) aNil)))))) (tOrE (tNotE (tTru (eCall 3 F_is_within (aCons (eVar 2) (aCons (eC (.int 1)) (aCons (eC (.int 10)) aNil)))))) (tNotE (tTru (eCall 3 F_are_spans (aCons (eVar 3) (aCons (eVar 1) (aCons (eVar 2) aNil)))))))) (sRet (eC (.bool false))) sNil) (sSeq (sIf (tOrE (tNotE (tTru (eIsi "tuple" (eVar 4)))) (tOf (eBin gtD (eCB lenD (aCons (eVar 4) aNil)) (eC (.int 30))))) (sRet (eC (.bool false))) sNil) (sRet (eCB allBD (aCons (eLc (itSeq (eVar 4)) [5] (gNm 5) tYesE is_book_E1) aNil)))))))
def F_is_book : Fn := mkFn 5 b_is_book
def b_check_book : Blk := (sIf (tNotE (tTru (eCall 1 F_is_book (aCons (eVar 0) aNil)))) (sRaise ⟨"NoBook"⟩) sNil)
def F_check_book : Fn := mkFn 0 b_check_book
def b_check_mark : Blk := (sIf (tNotE (tTru (eCall 3 F_is_within (aCons (eVar 1) (aCons (eC (.int 0)) (aCons (eBin subD (eIx (eVar 0) (eC (.int 1))) (eC (.int 1))) aNil)))))) (sRaise ⟨"NoMark"⟩) sNil)
def F_check_mark : Fn := mkFn 0 b_check_mark
def b_froms : Blk := (sRet (eCall 1 F_spans_by_goal (aCons (eIx (eVar 0) (eC (.int 2))) aNil)))
def F_froms : Fn := mkFn 0 b_froms
def ways_of_E1 : Ex := (eCall 3 F_way_from (aCons (eIx (eVar 0) (eC (.int 2))) (aCons (eVar 1) (aCons (eVar 2) aNil))))
def b_ways_of : Blk := (sSeq (sSet 1 (eCall 1 F_froms (aCons (eVar 0) aNil))) (sRet (eLc (itR1 (aCons (eIx (eVar 0) (eC (.int 1))) aNil)) [2] (gNm 2) tYesE ways_of_E1)))
def F_ways_of : Fn := mkFn 2 b_ways_of
def chosen_I1 : Te := (tOf (eBin ninD (eVar 2) (eVar 1)))
def chosen_E2 : Ex := (eVar 2)
def b_chosen : Blk := (sSeq (sExpr (eCall 1 F_check_book (aCons (eVar 0) aNil))) (sSeq (sSet 1 (eCall 1 F_froms (aCons (eVar 0) aNil))) (sRet (eCB tupleD (aCons (eLc (itR2 (aCons (eC (.int 1)) (aCons (eIx (eVar 0) (eC (.int 1))) aNil))) [2] (gNm 2) chosen_I1 chosen_E2) aNil)))))
def F_chosen : Fn := mkFn 2 b_chosen
def root_L1 : Blk := (sSet 1 (eIx (eIx (eIx (eVar 0) (eC (.int 2))) (eVar 2)) (eC (.int 0))))
def b_root : Blk := (sSeq (sExpr (eCall 1 F_check_book (aCons (eVar 0) aNil))) (sSeq (sExpr (eCall 2 F_check_mark (aCons (eVar 0) (aCons (eVar 1) aNil)))) (sSeq (sFor (itSeq (eIx (eCall 1 F_ways_of (aCons (eVar 0) aNil)) (eVar 1))) (gNm 2) root_L1) (sRet (eVar 1)))))
def F_root : Fn := mkFn 1 b_root
def b_show_book : Blk := (sSeq (sExpr (eCall 1 F_check_book (aCons (eVar 0) aNil))) sBad)
def F_show_book : Fn := mkFn 6 b_show_book
def m_law_pool_L1 : Blk := (sSeq (sSet 3 (eBin modD (eBin addD (eBin addD (eBin mulD (eBin modD (eVar 3) (eC (.int 999999999989))) (eC (.int 69621))) (eBin mulD (eC (.int 40503)) (eVar 5))) (eC (.int 271))) (eC (.int 999999999989)))) (sSet 4 (eBin addD (eBin mulD (eVar 4) (eBin powD (eC (.int 10)) (eC (.int 11)))) (eBin modD (eBin mulD (eVar 3) (eBin addD (eBin modD (eVar 3) (eC (.int 65537))) (eC (.int 3)))) (eC (.int 99999999977))))))
def b__law_pool : Blk := (sSeq (sSet 2 (eCB sumD (aCons (eSl (eVar 0) (pSome (eVar 1)) (pSome (eBin addD (eVar 1) (eC (.int 1))))) aNil))) (sSeq (sIf (tOrE (tOf (eBin ltD (eVar 2) (eC (.int 0)))) (tOf (eBin geD (eVar 2) (eBin powD (eC (.int 10)) (eC (.int 18)))))) (sRet (eLstM (aCons (eBin modD (eCB absD (aCons (eVar 2) aNil)) (eBin mulD (eBin mulD (eBin mulD (eBin mulD (eBin mulD (eBin powD (eC (.int 10)) (eC (.int 64))) (eBin powD (eC (.int 10)) (eC (.int 64)))) (eBin powD (eC (.int 10)) (eC (.int 64)))) (eBin powD (eC (.int 10)) (eC (.int 64)))) (eBin powD (eC (.int 10)) (eC (.int 64)))) (eBin powD (eC (.int 10)) (eC (.int 64))))) aNil))) sNil) (sSeq (sSet 3 (eBin addD (eBin addD (eBin mulD (eVar 2) (eC (.int 48271))) (eBin mulD (eBin mulD (eC (.int 977)) (eVar 1)) (eVar 1))) (eC (.int 13)))) (sSeq (sSet 4 (eC (.int 0))) (sSeq (sFor (itR1 (aCons (eC (.int 27)) aNil)) (gNm 5) m_law_pool_L1) (sRet (eLstM (aCons (eVar 4) aNil))))))))
def F__law_pool : Fn := mkFn 4 b__law_pool
def b__law_take : Blk := (sSeq (sAsg (eCB divmodD (aCons (eIx (eVar 0) (eC (.int 0))) (aCons (eVar 1) aNil))) (gTp 2 (gsCons (gSb setL (eVar 0) (eC (.int 0))) (gsCons (gNm 2) gsNil)))) (sRet (eVar 2)))
def F__law_take : Fn := mkFn 1 b__law_take
def m_law_bounds_L1 : Blk := (sSeq (sSet 4 (eCall 2 F__law_take (aCons (eVar 0) (aCons (eVar 1) aNil)))) (sExpr (eApp (eVar 2) (eTup (aCons (eVar 4) (aCons (eBin modD (eBin addD (eBin addD (eVar 4) (eC (.int 1))) (eCall 2 F__law_take (aCons (eVar 0) (aCons (eBin subD (eVar 1) (eC (.int 1))) aNil)))) (eVar 1)) (aCons (eBin subD (eCall 2 F__law_take (aCons (eVar 0) (aCons (eC (.int 121)) aNil))) (eC (.int 60))) aNil)))))))
def b__law_bounds : Blk := (sSeq (sSet 2 (eLstM aNil)) (sSeq (sFor (itR1 (aCons (eBin addD (eC (.int 1)) (eCall 2 F__law_take (aCons (eVar 0) (aCons (eC (.int 30)) aNil)))) aNil)) (gNm 3) m_law_bounds_L1) (sFrz 2 (sRet (eCB tupleD (aCons (eVar 2) aNil))))))
def F__law_bounds : Fn := mkFn 3 b__law_bounds
def m_law_sizes_E1 : Ex := (eTup (aCons (eC (.int 0)) (aCons (eBin addD (eVar 8) (eC (.int 1))) (aCons (eBin addD (eC (.int 1)) (eCall 2 F__law_take (aCons (eVar 0) (aCons (eVar 2) aNil)))) (aCons (eVar 2) aNil)))))
def b__law_sizes : Blk := (sSeq (sAsg (eVar 1) (gTp 4 (gsCons (gNm 2) (gsCons (gNm 3) (gsCons (gNm 4) (gsCons (gNm 5) gsNil)))))) (sSeq (sSet 6 (eCB tupleD (aCons (eLc (itR1 (aCons (eC (.int 5)) aNil)) [8] (gNm 8) tYesE m_law_sizes_E1) aNil))) (sSeq (sSet 7 (eLst (aCons (eTup (aCons (eTup (aCons (eVar 2) (aCons (eC (.int 10)) (aCons (eSl (eVar 6) pNone (pSome (eC (.int 4)))) (aCons (eVar 5) aNil))))) (aCons (eC (.bool true)) aNil))) (aCons (eTup (aCons (eTup (aCons (eVar 2) (aCons (eC (.int 10)) (aCons (eVar 6) (aCons (eVar 5) aNil))))) (aCons (eC (.bool false)) aNil))) (aCons (eTup (aCons (eTup (aCons (eVar 2) (aCons (eC (.int 10)) (aCons (eVar 4) (aCons (eVar 5) aNil))))) (aCons (eC (.bool true)) aNil))) aNil))))) (sSeq (sSet 7 (eBin addD (eVar 7) (eLst (aCons (eTup (aCons (eTup (aCons (eVar 2) (aCons (eC (.int 11)) (aCons (eVar 4) (aCons (eVar 5) aNil))))) (aCons (eC (.bool false)) aNil))) (aCons (eTup (aCons (eTup (aCons (eVar 2) (aCons (eC (.int 0)) (aCons (eTup aNil) (aCons (eTup aNil) aNil))))) (aCons (eC (.bool false)) aNil))) (aCons (eTup (aCons (eTup (aCons (eVar 2) (aCons (eNeg (eC (.int 1))) (aCons (eTup aNil) (aCons (eTup aNil) aNil))))) (aCons (eC (.bool false)) aNil))) aNil)))))) (sSeq (sSet 7 (eBin addD (eVar 7) (eLst (aCons (eTup (aCons (eTup (aCons (eVar 2) (aCons (eC (.int 1)) (aCons (eTup aNil) (aCons (eTup aNil) aNil))))) (aCons (eC (.bool true)) aNil))) (aCons (eTup (aCons (eTup (aCons (eC (.int 60)) (aCons (eVar 3) (aCons (eVar 4) (aCons (eVar 5) aNil))))) (aCons (eC (.bool true)) aNil))) (aCons (eTup (aCons (eTup (aCons (eC (.int 61)) (aCons (eVar 3) (aCons (eVar 4) (aCons (eVar 5) aNil))))) (aCons (eC (.bool false)) aNil))) aNil)))))) (sSeq (sSet 7 (eBin addD (eVar 7) (eLst (aCons (eTup (aCons (eTup (aCons (eC (.int 0)) (aCons (eVar 3) (aCons (eTup aNil) (aCons (eVar 5) aNil))))) (aCons (eC (.bool false)) aNil))) (aCons (eTup (aCons (eTup (aCons (eC (.int 1)) (aCons (eVar 3) (aCons (eTup aNil) (aCons (eVar 5) aNil))))) (aCons (eC (.bool true)) aNil))) (aCons (eTup (aCons (eTup (aCons (eNeg (eC (.int 1))) (aCons (eVar 3) (aCons (eTup aNil) (aCons (eVar 5) aNil))))) (aCons (eC (.bool false)) aNil))) aNil)))))) (sSeq (sSet 7 (eBin addD (eVar 7) (eLst (aCons (eTup (aCons (eTup (aCons (eBin powD (eC (.int 10)) (eC (.int 30))) (aCons (eVar 3) (aCons (eTup aNil) (aCons (eVar 5) aNil))))) (aCons (eC (.bool false)) aNil))) (aCons (eTup (aCons (eTup (aCons (eVar 2) (aCons (eVar 3) (aCons (eTup aNil) (aCons (eSl (eBin repTD (eVar 5) (eC (.int 30))) pNone (pSome (eC (.int 30)))) aNil))))) (aCons (eC (.bool true)) aNil))) aNil))))) (sRet (eBin addD (eVar 7) (eLst (aCons (eTup (aCons (eTup (aCons (eVar 2) (aCons (eVar 3) (aCons (eTup aNil) (aCons (eSl (eBin repTD (eVar 5) (eC (.int 31))) pNone (pSome (eC (.int 31)))) aNil))))) (aCons (eC (.bool false)) aNil))) (aCons (eTup (aCons (eTup (aCons (eVar 2) (aCons (eVar 3) (aCons (eTup aNil) (aCons (eTup aNil) aNil))))) (aCons (eC (.bool true)) aNil))) aNil))))))))))))
def F__law_sizes : Fn := mkFn 7 b__law_sizes
def m_law_of_spans_E1 : Ex := (eTup (aCons (eTup (aCons (eVar 2) (aCons (eVar 3) (aCons (eTup (aCons (eVar 13) aNil)) (aCons (eVar 5) aNil))))) (aCons (eC (.bool true)) aNil)))
def m_law_of_spans_E2 : Ex := (eTup (aCons (eTup (aCons (eVar 2) (aCons (eVar 3) (aCons (eTup (aCons (eVar 13) aNil)) (aCons (eVar 5) aNil))))) (aCons (eC (.bool false)) aNil)))
def b__law_of_spans : Blk := (sSeq (sAsg (eVar 1) (gTp 4 (gsCons (gNm 2) (gsCons (gNm 3) (gsCons (gNm 4) (gsCons (gNm 5) gsNil)))))) (sSeq (sAsg (eIx (eVar 4) (eC (.int 0))) (gTp 4 (gsCons (gNm 6) (gsCons (gNm 7) (gsCons (gNm 8) (gsCons (gNm 9) gsNil)))))) (sSeq (sSet 10 (eBin modD (eBin addD (eBin addD (eVar 7) (eC (.int 1))) (eCall 2 F__law_take (aCons (eVar 0) (aCons (eBin subD (eVar 3) (eC (.int 1))) aNil)))) (eVar 3))) (sSeq (sSet 11 (eLst (aCons (eTup (aCons (eVar 10) (aCons (eVar 7) (aCons (eC (.int 1)) (aCons (eVar 2) aNil))))) (aCons (eTup (aCons (eVar 10) (aCons (eVar 7) (aCons (eVar 2) (aCons (eVar 2) aNil))))) (aCons (eTup (aCons (eVar 10) (aCons (eVar 7) (aCons (eC (.int 1)) (aCons (eC (.int 1)) aNil))))) (aCons (eTup (aCons (eVar 10) (aCons (eVar 7) (aCons (eVar 8) (aCons (eVar 9) aNil))))) aNil)))))) (sSeq (sSet 11 (eLc (itSeq (eVar 11)) [13] (gNm 13) tYesE m_law_of_spans_E1)) (sSeq (sSet 12 (eLstM (aCons (eTup (aCons (eVar 3) (aCons (eVar 7) (aCons (eC (.int 1)) (aCons (eC (.int 1)) aNil))))) (aCons (eTup (aCons (eNeg (eC (.int 1))) (aCons (eVar 7) (aCons (eC (.int 1)) (aCons (eC (.int 1)) aNil))))) (aCons (eTup (aCons (eBin subD (eVar 7) (eVar 3)) (aCons (eVar 7) (aCons (eC (.int 1)) (aCons (eC (.int 1)) aNil))))) (aCons (eTup (aCons (eVar 10) (aCons (eVar 3) (aCons (eC (.int 1)) (aCons (eC (.int 1)) aNil))))) (aCons (eTup (aCons (eC (.int 0)) (aCons (eC (.int 0)) (aCons (eC (.int 1)) (aCons (eC (.int 1)) aNil))))) aNil))))))) (sSeq (sSet 12 (eCatM (eVar 12) (eLst (aCons (eTup (aCons (eVar 7) (aCons (eC (.int 0)) (aCons (eC (.int 1)) (aCons (eC (.int 1)) aNil))))) (aCons (eTup (aCons (eVar 6) (aCons (eNeg (eC (.int 1))) (aCons (eC (.int 1)) (aCons (eC (.int 1)) aNil))))) (aCons (eTup (aCons (eVar 6) (aCons (eBin subD (eVar 7) (eVar 3)) (aCons (eC (.int 1)) (aCons (eC (.int 1)) aNil))))) (aCons (eTup (aCons (eVar 7) (aCons (eVar 7) (aCons (eC (.int 1)) (aCons (eC (.int 1)) aNil))))) aNil))))))) (sSeq (sSet 12 (eCatM (eVar 12) (eLst (aCons (eTup (aCons (eVar 6) (aCons (eVar 7) (aCons (eC (.int 0)) (aCons (eVar 2) aNil))))) (aCons (eTup (aCons (eVar 6) (aCons (eVar 7) (aCons (eC (.int 1)) (aCons (eBin addD (eVar 2) (eC (.int 1))) aNil))))) (aCons (eTup (aCons (eVar 6) (aCons (eVar 7) (aCons (eBin addD (eVar 9) (eC (.int 1))) (aCons (eVar 9) aNil))))) aNil)))))) (sSeq (sExpr (eApp (eVar 12) (eTup (aCons (eVar 6) (aCons (eVar 7) (aCons (eNeg (eC (.int 1))) (aCons (eC (.int 1)) aNil))))))) (sSeq (sSet 12 (eCatM (eVar 12) (eLst (aCons (eTup (aCons (eVar 6) (aCons (eVar 7) (aCons (eC (.int 1)) (aCons (eC (.int 0)) aNil))))) (aCons (eTup (aCons (eVar 6) (aCons (eVar 7) (aCons (eC (.int 0)) (aCons (eC (.int 0)) aNil))))) (aCons (eTup (aCons (eVar 6) (aCons (eVar 7) (aCons (eBin addD (eVar 2) (eC (.int 1))) (aCons (eBin addD (eVar 2) (eC (.int 1))) aNil))))) aNil)))))) (sFrz 12 (sRet (eBin addD (eVar 11) (eLc (itSeq (eVar 12)) [13] (gNm 13) tYesE m_law_of_spans_E2))))))))))))))
def F__law_of_spans : Fn := mkFn 12 b__law_of_spans
def m_law_of_bounds_E1 : Ex := (eTup (aCons (eTup (aCons (eVar 2) (aCons (eVar 3) (aCons (eVar 4) (aCons (eBin addD (eSl (eVar 5) (pSome (eC (.int 1))) pNone) (eTup (aCons (eVar 12) aNil))) aNil))))) (aCons (eC (.bool true)) aNil)))
def m_law_of_bounds_E2 : Ex := (eTup (aCons (eTup (aCons (eVar 2) (aCons (eVar 3) (aCons (eVar 4) (aCons (eBin addD (eTup (aCons (eVar 12) aNil)) (eSl (eVar 5) (pSome (eC (.int 1))) pNone)) aNil))))) (aCons (eC (.bool false)) aNil)))
def b__law_of_bounds : Blk := (sSeq (sAsg (eVar 1) (gTp 4 (gsCons (gNm 2) (gsCons (gNm 3) (gsCons (gNm 4) (gsCons (gNm 5) gsNil)))))) (sSeq (sAsg (eIx (eVar 5) (eC (.int 0))) (gTp 3 (gsCons (gNm 6) (gsCons (gNm 7) (gsCons (gNm 8) gsNil))))) (sSeq (sSet 9 (eLst (aCons (eTup (aCons (eVar 6) (aCons (eVar 7) (aCons (eC (.int 60)) aNil)))) (aCons (eTup (aCons (eVar 6) (aCons (eVar 7) (aCons (eNeg (eC (.int 60))) aNil)))) (aCons (eTup (aCons (eC (.int 0)) (aCons (eBin subD (eVar 3) (eC (.int 1))) (aCons (eC (.int 0)) aNil)))) (aCons (eTup (aCons (eBin subD (eVar 3) (eC (.int 1))) (aCons (eC (.int 0)) (aCons (eBin subD (eCall 2 F__law_take (aCons (eVar 0) (aCons (eC (.int 121)) aNil))) (eC (.int 60))) aNil)))) aNil)))))) (sSeq (sSet 10 (eLstM (aCons (eTup (aCons (eVar 6) (aCons (eVar 7) (aCons (eC (.int 61)) aNil)))) (aCons (eTup (aCons (eVar 6) (aCons (eVar 7) (aCons (eNeg (eC (.int 61))) aNil)))) (aCons (eTup (aCons (eVar 6) (aCons (eVar 6) (aCons (eVar 8) aNil)))) (aCons (eTup (aCons (eVar 3) (aCons (eVar 7) (aCons (eVar 8) aNil)))) (aCons (eTup (aCons (eVar 6) (aCons (eVar 3) (aCons (eVar 8) aNil)))) aNil))))))) (sSeq (sSet 10 (eCatM (eVar 10) (eLst (aCons (eTup (aCons (eNeg (eC (.int 1))) (aCons (eVar 7) (aCons (eVar 8) aNil)))) (aCons (eTup (aCons (eVar 6) (aCons (eNeg (eC (.int 1))) (aCons (eVar 8) aNil)))) (aCons (eTup (aCons (eBin subD (eVar 6) (eVar 3)) (aCons (eVar 7) (aCons (eVar 8) aNil)))) (aCons (eTup (aCons (eVar 6) (aCons (eVar 7) (aCons (eBin powD (eC (.int 10)) (eC (.int 30))) aNil)))) aNil))))))) (sSeq (sExpr (eApp (eVar 10) (eTup (aCons (eC (.int 0)) (aCons (eC (.int 0)) (aCons (eC (.int 0)) aNil)))))) (sFrz 10 (sSeq (sSet 11 (eLc (itSeq (eVar 9)) [12] (gNm 12) tYesE m_law_of_bounds_E1)) (sRet (eBin addD (eVar 11) (eLc (itSeq (eVar 10)) [12] (gNm 12) tYesE m_law_of_bounds_E2)))))))))))
def F__law_of_bounds : Fn := mkFn 11 b__law_of_bounds
def b__law_only : Blk := (sSeq (sIf (tTru (eIsE (mTab [("NoBook", false)]) (eVar 0))) (sRet (eC (.bool false))) sNil) (sSeq (sIf (tTru (eIsE (mTab [("NoBook", false)]) (eVar 0))) (sRet (eC (.bool false))) sNil) (sRet (eAnd (eIsE (mTab [("NoBook", true)]) (eVar 0)) (eIsE (mTab [("NoBook", true)]) (eVar 0))))))
def F__law_only : Fn := mkFn 0 b__law_only
def b__law_refused : Blk := (sSeq (sSet 2 (eC .none)) (sSeq (sTryE (mTab [("NoBook", true)]) 3 (sExpr (eCall 2 F_root (aCons (eVar 0) (aCons (eVar 1) aNil)))) (sSet 2 (eVar 3))) (sRet (eCall 1 F__law_only (aCons (eVar 2) aNil)))))
def F__law_refused : Fn := mkFn 2 b__law_refused
def b__law_refused_all : Blk := (sSeq (sPar [1, 2] (aCons (eC .none) (aCons (eC .none) aNil))) (sSeq (sTryE (mTab [("NoBook", true)]) 3 (sExpr (eCall 1 F_chosen (aCons (eVar 0) aNil))) (sSet 1 (eVar 3))) (sSeq (sTryE (mTab [("NoBook", true)]) 3 (sExpr (eCall 1 F_show_book (aCons (eVar 0) aNil))) (sSet 2 (eVar 3))) (sRet (eAnd (eCall 1 F__law_only (aCons (eVar 1) aNil)) (eCall 1 F__law_only (aCons (eVar 2) aNil)))))))
def F__law_refused_all : Fn := mkFn 3 b__law_refused_all
def m_law_right_E1 : Ex := (eCall 2 F__law_refused (aCons (eVar 0) (aCons (eVar 3) aNil)))
def b__law_right : Blk := (sSeq (sSet 2 (eCall 1 F_is_book (aCons (eVar 0) aNil))) (sSeq (sIf (tOrE (tNotE (tTru (eIsi "bool" (eVar 2)))) (tOf (eBin neD (eVar 2) (eVar 1)))) (sRet (eC (.bool false))) sNil) (sSeq (sIf (tTru (eVar 1)) (sRet (eAnd (eBin eqD (eCall 2 F_root (aCons (eVar 0) (aCons (eC (.int 0)) aNil))) (eC (.int 0))) (eIsi "tuple" (eCall 1 F_chosen (aCons (eVar 0) aNil))))) sNil) (sRet (eAnd (eCall 1 F__law_refused_all (aCons (eVar 0) aNil)) (eCB allBD (aCons (eLc (itSeq (eLst (aCons (eC (.int 0)) (aCons (eNeg (eC (.int 1))) (aCons (eC .none) (aCons (eLst (aCons (eC (.int 0)) aNil)) aNil)))))) [3] (gNm 3) tYesE m_law_right_E1) aNil)))))))
def F__law_right : Fn := mkFn 2 b__law_right
def law_E1 : Ex := (eCall 2 F__law_right (aCons (eVar 10) (aCons (eVar 11) aNil)))
def law_L2 : Blk := (sSeq (sSet 2 (eCall 2 F__law_pool (aCons (eVar 0) (aCons (eVar 1) aNil)))) (sSeq (sPar [3, 4] (aCons (eBin addD (eC (.int 1)) (eCall 2 F__law_take (aCons (eVar 2) (aCons (eC (.int 60)) aNil)))) (aCons (eBin addD (eC (.int 2)) (eCall 2 F__law_take (aCons (eVar 2) (aCons (eC (.int 9)) aNil)))) aNil))) (sSeq (sSet 5 (eBin addD (eC (.int 1)) (eCall 2 F__law_take (aCons (eVar 2) (aCons (eBin subD (eVar 4) (eC (.int 1))) aNil))))) (sSeq (sSet 6 (eBin addD (eC (.int 1)) (eCall 2 F__law_take (aCons (eVar 2) (aCons (eVar 3) aNil))))) (sSeq (sSet 7 (eTup (aCons (eBin modD (eBin addD (eBin addD (eVar 5) (eC (.int 1))) (eCall 2 F__law_take (aCons (eVar 2) (aCons (eBin subD (eVar 4) (eC (.int 1))) aNil)))) (eVar 4)) (aCons (eVar 5) (aCons (eVar 6) (aCons (eBin addD (eVar 6) (eCall 2 F__law_take (aCons (eVar 2) (aCons (eBin subD (eBin addD (eVar 3) (eC (.int 1))) (eVar 6)) aNil)))) aNil)))))) (sSeq (sSet 8 (eTup (aCons (eVar 3) (aCons (eVar 4) (aCons (eTup (aCons (eVar 7) aNil)) (aCons (eCall 2 F__law_bounds (aCons (eVar 2) (aCons (eVar 4) aNil))) aNil)))))) (sSeq (sSet 9 (eBin addD (eBin addD (eBin addD (eCall 2 F__law_sizes (aCons (eVar 2) (aCons (eVar 8) aNil))) (eCall 2 F__law_of_spans (aCons (eVar 2) (aCons (eVar 8) aNil)))) (eCall 2 F__law_of_bounds (aCons (eVar 2) (aCons (eVar 8) aNil)))) (eLst (aCons (eTup (aCons (eVar 8) (aCons (eC (.bool true)) aNil))) aNil)))) (sIf (tNotE (tTru (eCB allBD (aCons (eLc (itSeq (eVar 9)) [10, 11] (gTp 2 (gsCons (gNm 10) (gsCons (gNm 11) gsNil))) tYesE law_E1) aNil)))) (sRet (eC (.bool false))) sNil))))))))
def b_law : Blk := (sSeq (sFor (itR1 (aCons (eCB max2D (aCons (eC (.int 2)) (aCons (eCB min2D (aCons (eCB lenD (aCons (eVar 0) aNil)) (aCons (eC (.int 10)) aNil))) aNil))) aNil)) (gNm 1) law_L2) (sRet (eC (.bool true))))
def F_law : Fn := mkFn 11 b_law
end Law

namespace Law
open PySem L2 DL
def topS (i : Nat) : Stmt := PySem.Challenge.pw_loosehours_k02_books_at_their_bounds.main.body.getD i (.Pass ⟨0, 0, 0, 0⟩)
abbrev s_is_whole : Stmt := topS 24
theorem sc_is_whole : FnScope ["x"] ["x"] (defScope s_is_whole) := ⟨rfl, rfl, rfl, by decide +kernel, rfl, by decide +kernel, by decide +kernel⟩
abbrev s_is_within : Stmt := topS 25
theorem sc_is_within : FnScope ["x", "least", "most"] ["x", "least", "most"] (defScope s_is_within) := ⟨rfl, rfl, rfl, by decide +kernel, rfl, by decide +kernel, by decide +kernel⟩
abbrev s_is_span : Stmt := topS 26
theorem sc_is_span : FnScope ["thing", "end", "many", "one", "other", "least", "most"] ["thing", "end", "many"] (defScope s_is_span) := ⟨rfl, rfl, rfl, by decide +kernel, rfl, by decide +kernel, by decide +kernel⟩
abbrev s_is_bound : Stmt := topS 27
theorem sc_is_bound : FnScope ["thing", "many", "one", "other", "number"] ["thing", "many"] (defScope s_is_bound) := ⟨rfl, rfl, rfl, by decide +kernel, rfl, by decide +kernel, by decide +kernel⟩
abbrev s_spans_by_goal : Stmt := topS 28
theorem sc_spans_by_goal : FnScope ["spans", "found", "at", "span"] ["spans"] (defScope s_spans_by_goal) := ⟨rfl, rfl, rfl, by decide +kernel, rfl, by decide +kernel, by decide +kernel⟩
abbrev s_way_from : Stmt := topS 29
theorem sc_way_from : FnScope ["spans", "known", "mark", "found"] ["spans", "known", "mark"] (defScope s_way_from) := ⟨rfl, rfl, rfl, by decide +kernel, rfl, by decide +kernel, by decide +kernel⟩
abbrev s_are_spans : Stmt := topS 30
theorem sc_are_spans : FnScope ["thing", "end", "many", "known", "span", "mark"] ["thing", "end", "many"] (defScope s_are_spans) := ⟨rfl, rfl, rfl, by decide +kernel, rfl, by decide +kernel, by decide +kernel⟩
abbrev s_is_book : Stmt := topS 31
theorem sc_is_book : FnScope ["thing", "end", "many", "spans", "bounds", "bound"] ["thing"] (defScope s_is_book) := ⟨rfl, rfl, rfl, by decide +kernel, rfl, by decide +kernel, by decide +kernel⟩
abbrev s_check_book : Stmt := topS 32
theorem sc_check_book : FnScope ["book"] ["book"] (defScope s_check_book) := ⟨rfl, rfl, rfl, by decide +kernel, rfl, by decide +kernel, by decide +kernel⟩
abbrev s_check_mark : Stmt := topS 33
theorem sc_check_mark : FnScope ["book", "mark"] ["book", "mark"] (defScope s_check_mark) := ⟨rfl, rfl, rfl, by decide +kernel, rfl, by decide +kernel, by decide +kernel⟩
abbrev s_froms : Stmt := topS 34
theorem sc_froms : FnScope ["book"] ["book"] (defScope s_froms) := ⟨rfl, rfl, rfl, by decide +kernel, rfl, by decide +kernel, by decide +kernel⟩
abbrev s_ways_of : Stmt := topS 35
theorem sc_ways_of : FnScope ["book", "known", "mark"] ["book"] (defScope s_ways_of) := ⟨rfl, rfl, rfl, by decide +kernel, rfl, by decide +kernel, by decide +kernel⟩
abbrev s_chosen : Stmt := topS 36
theorem sc_chosen : FnScope ["book", "known", "mark"] ["book"] (defScope s_chosen) := ⟨rfl, rfl, rfl, by decide +kernel, rfl, by decide +kernel, by decide +kernel⟩
abbrev s_root : Stmt := topS 37
theorem sc_root : FnScope ["book", "mark", "at"] ["book", "mark"] (defScope s_root) := ⟨rfl, rfl, rfl, by decide +kernel, rfl, by decide +kernel, by decide +kernel⟩
abbrev s_show_book : Stmt := topS 39
theorem sc_show_book : FnScope ["book", "rows", "one", "other", "least", "most", "number"] ["book"] (defScope s_show_book) := ⟨rfl, rfl, rfl, by decide +kernel, rfl, by decide +kernel, by decide +kernel⟩
abbrev s__law_pool : Stmt := topS 41
theorem sc__law_pool : FnScope ["_law_script", "_law_k", "_law_cell", "_law_more", "_law_found", "_law_turn"] ["_law_script", "_law_k"] (defScope s__law_pool) := ⟨rfl, rfl, rfl, by decide +kernel, rfl, by decide +kernel, by decide +kernel⟩
abbrev s__law_take : Stmt := topS 42
theorem sc__law_take : FnScope ["_law_pool_here", "_law_many", "_law_digit"] ["_law_pool_here", "_law_many"] (defScope s__law_take) := ⟨rfl, rfl, rfl, by decide +kernel, rfl, by decide +kernel, by decide +kernel⟩
abbrev s__law_bounds : Stmt := topS 43
theorem sc__law_bounds : FnScope ["_law_pool_here", "_law_many", "_law_found", "_law_turn", "_law_one"] ["_law_pool_here", "_law_many"] (defScope s__law_bounds) := ⟨rfl, rfl, rfl, by decide +kernel, rfl, by decide +kernel, by decide +kernel⟩
abbrev s__law_sizes : Stmt := topS 44
theorem sc__law_sizes : FnScope ["_law_pool_here", "_law_book", "_law_end", "_law_many", "_law_spans", "_law_bounds_here", "_law_full", "_law_some", "_law_k"] ["_law_pool_here", "_law_book"] (defScope s__law_sizes) := ⟨rfl, rfl, rfl, by decide +kernel, rfl, by decide +kernel, by decide +kernel⟩
abbrev s__law_of_spans : Stmt := topS 45
theorem sc__law_of_spans : FnScope ["_law_pool_here", "_law_book", "_law_end", "_law_many", "_law_spans", "_law_bounds_here", "_law_one", "_law_other", "_law_least", "_law_longest", "_law_third", "_law_some", "_law_bad", "_law_span"] ["_law_pool_here", "_law_book"] (defScope s__law_of_spans) := ⟨rfl, rfl, rfl, by decide +kernel, rfl, by decide +kernel, by decide +kernel⟩
abbrev s__law_of_bounds : Stmt := topS 46
theorem sc__law_of_bounds : FnScope ["_law_pool_here", "_law_book", "_law_end", "_law_many", "_law_spans", "_law_bounds_here", "_law_one", "_law_other", "_law_number", "_law_good", "_law_bad", "_law_some", "_law_bound"] ["_law_pool_here", "_law_book"] (defScope s__law_of_bounds) := ⟨rfl, rfl, rfl, by decide +kernel, rfl, by decide +kernel, by decide +kernel⟩
abbrev s__law_only : Stmt := topS 47
theorem sc__law_only : FnScope ["_law_caught"] ["_law_caught"] (defScope s__law_only) := ⟨rfl, rfl, rfl, by decide +kernel, rfl, by decide +kernel, by decide +kernel⟩
abbrev s__law_refused : Stmt := topS 48
theorem sc__law_refused : FnScope ["_law_thing", "_law_mark", "_law_caught", "e"] ["_law_thing", "_law_mark"] (defScope s__law_refused) := ⟨rfl, rfl, rfl, by decide +kernel, rfl, by decide +kernel, by decide +kernel⟩
abbrev s__law_refused_all : Stmt := topS 49
theorem sc__law_refused_all : FnScope ["_law_thing", "_law_caught", "_law_other", "e"] ["_law_thing"] (defScope s__law_refused_all) := ⟨rfl, rfl, rfl, by decide +kernel, rfl, by decide +kernel, by decide +kernel⟩
abbrev s__law_right : Stmt := topS 50
theorem sc__law_right : FnScope ["_law_thing", "_law_due", "_law_told", "_law_mark"] ["_law_thing", "_law_due"] (defScope s__law_right) := ⟨rfl, rfl, rfl, by decide +kernel, rfl, by decide +kernel, by decide +kernel⟩
abbrev s_law : Stmt := topS 51
theorem sc_law : FnScope ["_law_script", "_law_k", "_law_pool_here", "_law_end", "_law_many", "_law_goal", "_law_least", "_law_span", "_law_book", "_law_some", "_law_thing", "_law_due"] ["_law_script"] (defScope s_law) := ⟨rfl, rfl, rfl, by decide +kernel, rfl, by decide +kernel, by decide +kernel⟩
/-- what the top has written -/
structure TX (K : PySem.W.Frag) (mg : Str → Option Value) where
  a_is_whole : Addr
  fd_is_whole : FuncData
  m_is_whole : mg "is_whole" = some (.ref a_is_whole)
  F_is_whole : Fun K "is_whole" "is_whole" s_is_whole a_is_whole fd_is_whole
  B_is_whole : Binds K fd_is_whole ["x"] []
  a_is_within : Addr
  fd_is_within : FuncData
  m_is_within : mg "is_within" = some (.ref a_is_within)
  F_is_within : Fun K "is_within" "is_within" s_is_within a_is_within fd_is_within
  B_is_within : Binds K fd_is_within ["x", "least", "most"] []
  a_is_span : Addr
  fd_is_span : FuncData
  m_is_span : mg "is_span" = some (.ref a_is_span)
  F_is_span : Fun K "is_span" "is_span" s_is_span a_is_span fd_is_span
  B_is_span : Binds K fd_is_span ["thing", "end", "many"] []
  a_is_bound : Addr
  fd_is_bound : FuncData
  m_is_bound : mg "is_bound" = some (.ref a_is_bound)
  F_is_bound : Fun K "is_bound" "is_bound" s_is_bound a_is_bound fd_is_bound
  B_is_bound : Binds K fd_is_bound ["thing", "many"] []
  a_spans_by_goal : Addr
  fd_spans_by_goal : FuncData
  m_spans_by_goal : mg "spans_by_goal" = some (.ref a_spans_by_goal)
  F_spans_by_goal : Fun K "spans_by_goal" "spans_by_goal" s_spans_by_goal a_spans_by_goal fd_spans_by_goal
  B_spans_by_goal : Binds K fd_spans_by_goal ["spans"] []
  a_way_from : Addr
  fd_way_from : FuncData
  m_way_from : mg "way_from" = some (.ref a_way_from)
  F_way_from : Fun K "way_from" "way_from" s_way_from a_way_from fd_way_from
  B_way_from : Binds K fd_way_from ["spans", "known", "mark"] []
  a_are_spans : Addr
  fd_are_spans : FuncData
  m_are_spans : mg "are_spans" = some (.ref a_are_spans)
  F_are_spans : Fun K "are_spans" "are_spans" s_are_spans a_are_spans fd_are_spans
  B_are_spans : Binds K fd_are_spans ["thing", "end", "many"] []
  a_is_book : Addr
  fd_is_book : FuncData
  m_is_book : mg "is_book" = some (.ref a_is_book)
  F_is_book : Fun K "is_book" "is_book" s_is_book a_is_book fd_is_book
  B_is_book : Binds K fd_is_book ["thing"] []
  a_check_book : Addr
  fd_check_book : FuncData
  m_check_book : mg "check_book" = some (.ref a_check_book)
  F_check_book : Fun K "check_book" "check_book" s_check_book a_check_book fd_check_book
  B_check_book : Binds K fd_check_book ["book"] []
  a_check_mark : Addr
  fd_check_mark : FuncData
  m_check_mark : mg "check_mark" = some (.ref a_check_mark)
  F_check_mark : Fun K "check_mark" "check_mark" s_check_mark a_check_mark fd_check_mark
  B_check_mark : Binds K fd_check_mark ["book", "mark"] []
  a_froms : Addr
  fd_froms : FuncData
  m_froms : mg "froms" = some (.ref a_froms)
  F_froms : Fun K "froms" "froms" s_froms a_froms fd_froms
  B_froms : Binds K fd_froms ["book"] []
  a_ways_of : Addr
  fd_ways_of : FuncData
  m_ways_of : mg "ways_of" = some (.ref a_ways_of)
  F_ways_of : Fun K "ways_of" "ways_of" s_ways_of a_ways_of fd_ways_of
  B_ways_of : Binds K fd_ways_of ["book"] []
  a_chosen : Addr
  fd_chosen : FuncData
  m_chosen : mg "chosen" = some (.ref a_chosen)
  F_chosen : Fun K "chosen" "chosen" s_chosen a_chosen fd_chosen
  B_chosen : Binds K fd_chosen ["book"] []
  a_root : Addr
  fd_root : FuncData
  m_root : mg "root" = some (.ref a_root)
  F_root : Fun K "root" "root" s_root a_root fd_root
  B_root : Binds K fd_root ["book", "mark"] []
  a_show_book : Addr
  fd_show_book : FuncData
  m_show_book : mg "show_book" = some (.ref a_show_book)
  F_show_book : Fun K "show_book" "show_book" s_show_book a_show_book fd_show_book
  B_show_book : Binds K fd_show_book ["book"] []
  a__law_pool : Addr
  fd__law_pool : FuncData
  m__law_pool : mg "_law_pool" = some (.ref a__law_pool)
  F__law_pool : Fun K "_law_pool" "_law_pool" s__law_pool a__law_pool fd__law_pool
  B__law_pool : Binds K fd__law_pool ["_law_script", "_law_k"] []
  a__law_take : Addr
  fd__law_take : FuncData
  m__law_take : mg "_law_take" = some (.ref a__law_take)
  F__law_take : Fun K "_law_take" "_law_take" s__law_take a__law_take fd__law_take
  B__law_take : Binds K fd__law_take ["_law_pool_here", "_law_many"] []
  a__law_bounds : Addr
  fd__law_bounds : FuncData
  m__law_bounds : mg "_law_bounds" = some (.ref a__law_bounds)
  F__law_bounds : Fun K "_law_bounds" "_law_bounds" s__law_bounds a__law_bounds fd__law_bounds
  B__law_bounds : Binds K fd__law_bounds ["_law_pool_here", "_law_many"] []
  a__law_sizes : Addr
  fd__law_sizes : FuncData
  m__law_sizes : mg "_law_sizes" = some (.ref a__law_sizes)
  F__law_sizes : Fun K "_law_sizes" "_law_sizes" s__law_sizes a__law_sizes fd__law_sizes
  B__law_sizes : Binds K fd__law_sizes ["_law_pool_here", "_law_book"] []
  a__law_of_spans : Addr
  fd__law_of_spans : FuncData
  m__law_of_spans : mg "_law_of_spans" = some (.ref a__law_of_spans)
  F__law_of_spans : Fun K "_law_of_spans" "_law_of_spans" s__law_of_spans a__law_of_spans fd__law_of_spans
  B__law_of_spans : Binds K fd__law_of_spans ["_law_pool_here", "_law_book"] []
  a__law_of_bounds : Addr
  fd__law_of_bounds : FuncData
  m__law_of_bounds : mg "_law_of_bounds" = some (.ref a__law_of_bounds)
  F__law_of_bounds : Fun K "_law_of_bounds" "_law_of_bounds" s__law_of_bounds a__law_of_bounds fd__law_of_bounds
  B__law_of_bounds : Binds K fd__law_of_bounds ["_law_pool_here", "_law_book"] []
  a__law_only : Addr
  fd__law_only : FuncData
  m__law_only : mg "_law_only" = some (.ref a__law_only)
  F__law_only : Fun K "_law_only" "_law_only" s__law_only a__law_only fd__law_only
  B__law_only : Binds K fd__law_only ["_law_caught"] []
  a__law_refused : Addr
  fd__law_refused : FuncData
  m__law_refused : mg "_law_refused" = some (.ref a__law_refused)
  F__law_refused : Fun K "_law_refused" "_law_refused" s__law_refused a__law_refused fd__law_refused
  B__law_refused : Binds K fd__law_refused ["_law_thing", "_law_mark"] []
  a__law_refused_all : Addr
  fd__law_refused_all : FuncData
  m__law_refused_all : mg "_law_refused_all" = some (.ref a__law_refused_all)
  F__law_refused_all : Fun K "_law_refused_all" "_law_refused_all" s__law_refused_all a__law_refused_all fd__law_refused_all
  B__law_refused_all : Binds K fd__law_refused_all ["_law_thing"] []
  a__law_right : Addr
  fd__law_right : FuncData
  m__law_right : mg "_law_right" = some (.ref a__law_right)
  F__law_right : Fun K "_law_right" "_law_right" s__law_right a__law_right fd__law_right
  B__law_right : Binds K fd__law_right ["_law_thing", "_law_due"] []
  a_law : Addr
  fd_law : FuncData
  m_law : mg "law" = some (.ref a_law)
  F_law : Fun K "law" "law" s_law a_law fd_law
  B_law : Binds K fd_law ["_law_script"] []
  n_ValueError : mg "ValueError" = none
  n_abs : mg "abs" = none
  n_all : mg "all" = none
  n_bool : mg "bool" = none
  n_divmod : mg "divmod" = none
  n_enumerate : mg "enumerate" = none
  n_int : mg "int" = none
  n_isinstance : mg "isinstance" = none
  n_len : mg "len" = none
  n_max : mg "max" = none
  n_min : mg "min" = none
  n_range : mg "range" = none
  n_sum : mg "sum" = none
  n_tuple : mg "tuple" = none
  t_MOST_BOUNDS : Tok
  g_MOST_BOUNDS : mg "MOST_BOUNDS" = some (.int 30 t_MOST_BOUNDS)
  t_MOST_END : Tok
  g_MOST_END : mg "MOST_END" = some (.int 60 t_MOST_END)
  t_MOST_MARKS : Tok
  g_MOST_MARKS : mg "MOST_MARKS" = some (.int 10 t_MOST_MARKS)
  t_MOST_SPANS : Tok
  g_MOST_SPANS : mg "MOST_SPANS" = some (.int 4 t_MOST_SPANS)
  t_MOST_W : Tok
  g_MOST_W : mg "MOST_W" = some (.int 60 t_MOST_W)
  C_HourError : Addr
  e_HourError : ExcT K mg "HourError" C_HourError
  C_NoBook : Addr
  e_NoBook : ExcT K mg "NoBook" C_NoBook
  C_NoMark : Addr
  e_NoMark : ExcT K mg "NoMark" C_NoMark
  C_NoBound : Addr
  C_NoDeeds : Addr
  C_NoFoe : Addr
  C_NoHour : Addr
  C_NoHours : Addr
  C_NoRow : Addr
  C_NoRows : Addr
  C_NoSpan : Addr
  C_NoStory : Addr
  C_NoTables : Addr
  C_NoText : Addr
  C_NoUndo : Addr
  C_NoWord : Addr
  C_TooMany : Addr
  d_NoBook : mg "NoBook" = some (.ref C_NoBook)
  d_NoBound : mg "NoBound" = some (.ref C_NoBound)
  d_NoDeeds : mg "NoDeeds" = some (.ref C_NoDeeds)
  d_NoFoe : mg "NoFoe" = some (.ref C_NoFoe)
  d_NoHour : mg "NoHour" = some (.ref C_NoHour)
  d_NoHours : mg "NoHours" = some (.ref C_NoHours)
  d_NoMark : mg "NoMark" = some (.ref C_NoMark)
  d_NoRow : mg "NoRow" = some (.ref C_NoRow)
  d_NoRows : mg "NoRows" = some (.ref C_NoRows)
  d_NoSpan : mg "NoSpan" = some (.ref C_NoSpan)
  d_NoStory : mg "NoStory" = some (.ref C_NoStory)
  d_NoTables : mg "NoTables" = some (.ref C_NoTables)
  d_NoText : mg "NoText" = some (.ref C_NoText)
  d_NoUndo : mg "NoUndo" = some (.ref C_NoUndo)
  d_NoWord : mg "NoWord" = some (.ref C_NoWord)
  d_TooMany : mg "TooMany" = some (.ref C_TooMany)
  r_NoBook : ErT K "NoBook" C_NoBook
  k_NoBook_NoBook : PySem.W.kitOne K (.ref C_NoBook) (.ref C_NoBook) = some true
  k_NoBook_NoBound : PySem.W.kitOne K (.ref C_NoBook) (.ref C_NoBound) = some false
  k_NoBook_NoDeeds : PySem.W.kitOne K (.ref C_NoBook) (.ref C_NoDeeds) = some false
  k_NoBook_NoFoe : PySem.W.kitOne K (.ref C_NoBook) (.ref C_NoFoe) = some false
  k_NoBook_NoHour : PySem.W.kitOne K (.ref C_NoBook) (.ref C_NoHour) = some false
  k_NoBook_NoHours : PySem.W.kitOne K (.ref C_NoBook) (.ref C_NoHours) = some false
  k_NoBook_NoMark : PySem.W.kitOne K (.ref C_NoBook) (.ref C_NoMark) = some false
  k_NoBook_NoRow : PySem.W.kitOne K (.ref C_NoBook) (.ref C_NoRow) = some false
  k_NoBook_NoRows : PySem.W.kitOne K (.ref C_NoBook) (.ref C_NoRows) = some false
  k_NoBook_NoSpan : PySem.W.kitOne K (.ref C_NoBook) (.ref C_NoSpan) = some false
  k_NoBook_NoStory : PySem.W.kitOne K (.ref C_NoBook) (.ref C_NoStory) = some false
  k_NoBook_NoTables : PySem.W.kitOne K (.ref C_NoBook) (.ref C_NoTables) = some false
  k_NoBook_NoText : PySem.W.kitOne K (.ref C_NoBook) (.ref C_NoText) = some false
  k_NoBook_NoUndo : PySem.W.kitOne K (.ref C_NoBook) (.ref C_NoUndo) = some false
  k_NoBook_NoWord : PySem.W.kitOne K (.ref C_NoBook) (.ref C_NoWord) = some false
  k_NoBook_TooMany : PySem.W.kitOne K (.ref C_NoBook) (.ref C_TooMany) = some false
  k_NoBook_ValueError : PySem.W.kitOne K (.ref C_NoBook) (.type "ValueError") = some true
  x_NoBook_HourError : PySem.W.exmOne K (.ref C_NoBook) (.ref C_HourError) = some true
section
variable {P : Program} {w : World} {K : PySem.W.Frag} {mg : Str → Option Value} {base : Heap}
theorem ok_is_whole (T : TX K mg) : FnOk P w K mg base (L2.CX P w) 1 T.a_is_whole T.fd_is_whole ["x"] (spG K mg 1 F_is_whole) := okG (k := 0) b_is_whole T.F_is_whole sc_is_whole rfl rfl rfl (fun cdv A outer s H E hr =>
  (ss_one (ss_ret (se_and (se_isi (T := "int") (by decide) (se_var (pv 0)) (by rfl) T.n_isinstance (by rfl) T.n_int bt_int) (se_one (se_not (se_isi (T := "bool") (by decide) (se_var (pv 0)) (by rfl) T.n_isinstance (by rfl) T.n_bool bt_bool)))))))
theorem ok_is_within (T : TX K mg) : FnOk P w K mg base (L2.CX P w) 2 T.a_is_within T.fd_is_within ["x", "least", "most"] (spG K mg 3 F_is_within) := okG (k := 1) b_is_within T.F_is_within sc_is_within rfl rfl rfl (fun cdv A outer s H E hr =>
  (ss_one (ss_ret (se_and (se_call (takes_of rfl rfl rfl rfl) (ok_is_whole T) (hr.mono (by decide)) (by rfl) T.m_is_whole T.F_is_whole.kp T.B_is_whole (sa_cons (se_var (pv 0)) sa_nil)) (se_one (se_chain o_le o_le (se_var (pv 1)) (se_var (pv 0)) (se_var (pv 2))))))))
theorem ok_is_span (T : TX K mg) : FnOk P w K mg base (L2.CX P w) 3 T.a_is_span T.fd_is_span ["thing", "end", "many"] (spG K mg 3 F_is_span) := okG (k := 2) b_is_span T.F_is_span sc_is_span rfl rfl rfl (fun cdv A outer s H E hr =>
  (ss_cons (ss_if (PW.pt (sw_or (st_not (st_tru (se_isi (T := "tuple") (by decide) (se_var (pv 0)) (by rfl) T.n_isinstance (by rfl) T.n_tuple bt_tuple))) (sw_or1 (st_cmp (o_ne hr.units) (se_callB b_len (by rfl) T.n_len bt_len (sa_cons (se_var (pv 0)) sa_nil)) se_int (nomark _))))) (ss_one (ss_ret se_bl)) ss_nil) (ss_cons (ss_asg (ps_asg (se_var (pv 0)) (sg_tup (pg_tup rfl (sgs_cons (sg_name (i := 3) sc_is_span.nd rfl (.inl rfl)) (sgs_cons (sg_name (i := 4) sc_is_span.nd rfl (.inl rfl)) (sgs_cons (sg_name (i := 5) sc_is_span.nd rfl (.inl rfl)) (sgs_cons (sg_name (i := 6) sc_is_span.nd rfl (.inl rfl)) sgs_nil)))))))) (ss_cons (ss_if (PW.pt (sw_or (st_not (st_tru (se_call (takes_of rfl rfl rfl rfl) (ok_is_within T) (hr.mono (by decide)) (by rfl) T.m_is_within T.F_is_within.kp T.B_is_within (sa_cons (se_var (pv 3)) (sa_cons se_int (sa_cons (se_bin o_sub (se_var (pv 2)) se_int) sa_nil)))))) (sw_or (st_not (st_tru (se_call (takes_of rfl rfl rfl rfl) (ok_is_within T) (hr.mono (by decide)) (by rfl) T.m_is_within T.F_is_within.kp T.B_is_within (sa_cons (se_var (pv 4)) (sa_cons se_int (sa_cons (se_bin o_sub (se_var (pv 2)) se_int) sa_nil)))))) (sw_or1 (st_cmp (o_eq hr.units) (se_var (pv 3)) (se_var (pv 4)) (nomark _)))))) (ss_one (ss_ret se_bl)) ss_nil) (ss_one (ss_ret (se_and (se_call (takes_of rfl rfl rfl rfl) (ok_is_within T) (hr.mono (by decide)) (by rfl) T.m_is_within T.F_is_within.kp T.B_is_within (sa_cons (se_var (pv 6)) (sa_cons se_int (sa_cons (se_var (pv 1)) sa_nil)))) (se_one (se_call (takes_of rfl rfl rfl rfl) (ok_is_within T) (hr.mono (by decide)) (by rfl) T.m_is_within T.F_is_within.kp T.B_is_within (sa_cons (se_var (pv 5)) (sa_cons se_int (sa_cons (se_var (pv 6)) sa_nil))))))))))))
theorem ok_is_bound (T : TX K mg) : FnOk P w K mg base (L2.CX P w) 3 T.a_is_bound T.fd_is_bound ["thing", "many"] (spG K mg 2 F_is_bound) := okG (k := 2) b_is_bound T.F_is_bound sc_is_bound rfl rfl rfl (fun cdv A outer s H E hr =>
  (ss_cons (ss_if (PW.pt (sw_or (st_not (st_tru (se_isi (T := "tuple") (by decide) (se_var (pv 0)) (by rfl) T.n_isinstance (by rfl) T.n_tuple bt_tuple))) (sw_or1 (st_cmp (o_ne hr.units) (se_callB b_len (by rfl) T.n_len bt_len (sa_cons (se_var (pv 0)) sa_nil)) se_int (nomark _))))) (ss_one (ss_ret se_bl)) ss_nil) (ss_cons (ss_asg (ps_asg (se_var (pv 0)) (sg_tup (pg_tup rfl (sgs_cons (sg_name (i := 2) sc_is_bound.nd rfl (.inl rfl)) (sgs_cons (sg_name (i := 3) sc_is_bound.nd rfl (.inl rfl)) (sgs_cons (sg_name (i := 4) sc_is_bound.nd rfl (.inl rfl)) sgs_nil))))))) (ss_cons (ss_if (PW.pt (sw_or (st_not (st_tru (se_call (takes_of rfl rfl rfl rfl) (ok_is_within T) (hr.mono (by decide)) (by rfl) T.m_is_within T.F_is_within.kp T.B_is_within (sa_cons (se_var (pv 2)) (sa_cons se_int (sa_cons (se_bin o_sub (se_var (pv 1)) se_int) sa_nil)))))) (sw_or (st_not (st_tru (se_call (takes_of rfl rfl rfl rfl) (ok_is_within T) (hr.mono (by decide)) (by rfl) T.m_is_within T.F_is_within.kp T.B_is_within (sa_cons (se_var (pv 3)) (sa_cons se_int (sa_cons (se_bin o_sub (se_var (pv 1)) se_int) sa_nil)))))) (sw_or1 (st_cmp (o_eq hr.units) (se_var (pv 2)) (se_var (pv 3)) (nomark _)))))) (ss_one (ss_ret se_bl)) ss_nil) (ss_one (ss_ret (se_call (takes_of rfl rfl rfl rfl) (ok_is_within T) (hr.mono (by decide)) (by rfl) T.m_is_within T.F_is_within.kp T.B_is_within (sa_cons (se_var (pv 4)) (sa_cons (se_bin o_sub se_int (se_c (pe_glob (v := .int 60) (by rfl) T.g_MOST_W ⟨_, rfl⟩) (fun _ _ => .int _))) (sa_cons (se_c (pe_glob (v := .int 60) (by rfl) T.g_MOST_W ⟨_, rfl⟩) (fun _ _ => .int _)) sa_nil))))))))))
theorem ok_spans_by_goal (T : TX K mg) : FnOk P w K mg base (L2.CX P w) 1 T.a_spans_by_goal T.fd_spans_by_goal ["spans"] (spG K mg 1 F_spans_by_goal) := okG (k := 0) b_spans_by_goal T.F_spans_by_goal sc_spans_by_goal rfl rfl rfl (fun cdv A outer s H E hr =>
  (ss_cons (ss_set (i := 1) sc_spans_by_goal.nd rfl (.inl rfl) se_dicM) (ss_cons (ss_for (passes_of rfl) rfl (si_enum (by rfl) T.n_enumerate (sa_cons (se_var (pv 0)) sa_nil)) (sg_tup (pg_tup rfl (sgs_cons (sg_name (i := 2) sc_spans_by_goal.nd rfl (.inl rfl)) (sgs_cons (sg_name (i := 3) sc_spans_by_goal.nd rfl (.inl rfl)) sgs_nil)))) (ss_one (ss_setD (hu_of hr) (se_var (pv 1)) (se_ix (hu_of hr) (se_var (pv 3)) se_int (fun _ _ => rfl)) (se_var (pv 2))))) (ss_one (ss_ret (se_frz (se_var (pv 1))))))))
theorem ok_way_from (T : TX K mg) : FnOk P w K mg base (L2.CX P w) 1 T.a_way_from T.fd_way_from ["spans", "known", "mark"] (spG K mg 3 F_way_from) := okG (k := 0) b_way_from T.F_way_from sc_way_from rfl rfl rfl (fun cdv A outer s H E hr =>
  (ss_cons (ss_set (i := 3) sc_way_from.nd rfl (.inl rfl) (se_lstM sa_nil)) (ss_cons (ss_while fuelW (passes_of rfl) (PW.pt (sw_and (st_cmp (o_in hr.units) (se_var (pv 2)) (se_var (pv 1)) (by rfl)) (sw_and1 (st_cmp o_le (se_callB b_len (by rfl) T.n_len bt_len (sa_cons (se_var (pv 3)) sa_nil)) (se_callB b_len (by rfl) T.n_len bt_len (sa_cons (se_var (pv 0)) sa_nil)) (nomark _))))) (ss_cons (ss_expr (se_app (se_var (pv 3)) (se_ix (hu_of hr) (se_var (pv 1)) (se_var (pv 2)) (fun _ _ => rfl)))) (ss_one (ss_set (i := 2) sc_way_from.nd rfl (.inl rfl) (se_ix (hu_of hr) (se_ix (hu_of hr) (se_var (pv 0)) (se_ix (hu_of hr) (se_var (pv 1)) (se_var (pv 2)) (fun _ _ => rfl)) (fun _ _ => rfl)) se_int (fun _ _ => rfl)))))) (ss_one (ss_ret (se_frz (se_var (pv 3))))))))
theorem ok_are_spans (T : TX K mg) : FnOk P w K mg base (L2.CX P w) 4 T.a_are_spans T.fd_are_spans ["thing", "end", "many"] (spG K mg 3 F_are_spans) := okG (k := 3) b_are_spans T.F_are_spans sc_are_spans rfl rfl rfl (fun cdv A outer s H E hr =>
  (ss_cons (ss_if (PW.pt (sw_or (st_not (st_tru (se_isi (T := "tuple") (by decide) (se_var (pv 0)) (by rfl) T.n_isinstance (by rfl) T.n_tuple bt_tuple))) (sw_or1 (st_cmp o_gt (se_callB b_len (by rfl) T.n_len bt_len (sa_cons (se_var (pv 0)) sa_nil)) (se_c (pe_glob (v := .int 4) (by rfl) T.g_MOST_SPANS ⟨_, rfl⟩) (fun _ _ => .int _)) (nomark _))))) (ss_one (ss_ret se_bl)) ss_nil) (ss_cons (ss_if (st_not (st_tru (se_callB (b_all rfl) (by rfl) T.n_all bt_all (sa_cons (se_lc (pe_lc (own := [("span", 4)]) rfl sc_are_spans.nd (si_seq (se_var (pv 0))) (blkOk_by (own := [("span", 4)]) (N := ["thing", "end", "many", "known", "span", "mark"]) (sc := defScope s_are_spans) (by decide +kernel)) (fun _ _ _ _ _ => (sgw_name (i := 4) (by decide) sc_are_spans.nd rfl (by first | exact .inl rfl | exact .inr rfl))) (fun _ _ _ _ _ => sts_nil) (fun _ _ _ _ _ => (se_call takes0 (ok_is_span T) (hr.mono (by decide)) (by rfl) T.m_is_span T.F_is_span.kp T.B_is_span (sa_cons (se_var (pv 4)) (sa_cons (se_var (pv 1)) (sa_cons (se_var (pv 2)) sa_nil))))))) sa_nil)))) (ss_one (ss_ret se_bl)) ss_nil) (ss_cons (ss_set (i := 3) sc_are_spans.nd rfl (.inr rfl) (se_call (takes_of rfl rfl rfl rfl) (ok_spans_by_goal T) (hr.mono (by decide)) (by rfl) T.m_spans_by_goal T.F_spans_by_goal.kp T.B_spans_by_goal (sa_cons (se_var (pv 0)) sa_nil))) (ss_one (ss_ret (se_and (se_cmp (o_eq hr.units) (se_callB b_len (by rfl) T.n_len bt_len (sa_cons (se_var (pv 3)) sa_nil)) (se_callB b_len (by rfl) T.n_len bt_len (sa_cons (se_var (pv 0)) sa_nil)) (nomark _)) (se_one (se_callB (b_all rfl) (by rfl) T.n_all bt_all (sa_cons (se_lcK (pe_lc (own := [("mark", 5)]) rfl sc_are_spans.nd (pi_lk (pv 3)) (blkOk_by (own := [("mark", 5)]) (N := ["thing", "end", "many", "known", "span", "mark"]) (sc := defScope s_are_spans) (by decide +kernel)) (fun _ _ _ _ _ => (sgw_name (i := 5) (by decide) sc_are_spans.nd rfl (by first | exact .inl rfl | exact .inr rfl))) (fun _ _ _ _ _ => sts_nil) (fun _ _ _ _ _ => (se_cmp o_le (se_callB b_len (by rfl) T.n_len bt_len (sa_cons (se_call takes0 (ok_way_from T) (hr.mono (by decide)) (by rfl) T.m_way_from T.F_way_from.kp T.B_way_from (sa_cons (se_var (pv 0)) (sa_cons (se_var (pv 3)) (sa_cons (se_var (pv 5)) sa_nil)))) sa_nil)) (se_callB b_len (by rfl) T.n_len bt_len (sa_cons (se_var (pv 0)) sa_nil)) (nomark _))))) sa_nil))))))))))
theorem ok_is_book (T : TX K mg) : FnOk P w K mg base (L2.CX P w) 5 T.a_is_book T.fd_is_book ["thing"] (spG K mg 1 F_is_book) := okG (k := 4) b_is_book T.F_is_book sc_is_book rfl rfl rfl (fun cdv A outer s H E hr =>
  (ss_cons (ss_if (PW.pt (sw_or (st_not (st_tru (se_isi (T := "tuple") (by decide) (se_var (pv 0)) (by rfl) T.n_isinstance (by rfl) T.n_tuple bt_tuple))) (sw_or1 (st_cmp (o_ne hr.units) (se_callB b_len (by rfl) T.n_len bt_len (sa_cons (se_var (pv 0)) sa_nil)) se_int (nomark _))))) (ss_one (ss_ret se_bl)) ss_nil) (ss_cons (ss_asg (ps_asg (se_var (pv 0)) (sg_tup (pg_tup rfl (sgs_cons (sg_name (i := 1) sc_is_book.nd rfl (.inl rfl)) (sgs_cons (sg_name (i := 2) sc_is_book.nd rfl (.inr rfl)) (sgs_cons (sg_name (i := 3) sc_is_book.nd rfl (.inl rfl)) (sgs_cons (sg_name (i := 4) sc_is_book.nd rfl (.inl rfl)) sgs_nil)))))))) (ss_cons (ss_if (PW.pt (sw_or (st_not (st_tru (se_call (takes_of rfl rfl rfl rfl) (ok_is_within T) (hr.mono (by decide)) (by rfl) T.m_is_within T.F_is_within.kp T.B_is_within (sa_cons (se_var (pv 1)) (sa_cons se_int (sa_cons (se_c (pe_glob (v := .int 60) (by rfl) T.g_MOST_END ⟨_, rfl⟩) (fun _ _ => .int _)) sa_nil)))))) (sw_or (st_not (st_tru (se_call (takes_of rfl rfl rfl rfl) (ok_is_within T) (hr.mono (by decide)) (by rfl) T.m_is_within T.F_is_within.kp T.B_is_within (sa_cons (se_var (pv 2)) (sa_cons se_int (sa_cons (se_c (pe_glob (v := .int 10) (by rfl) T.g_MOST_MARKS ⟨_, rfl⟩) (fun _ _ => .int _)) sa_nil)))))) (sw_or1 (st_not (st_tru (se_call (takes_of rfl rfl rfl rfl) (ok_are_spans T) (hr.mono (by decide)) (by rfl) T.m_are_spans T.F_are_spans.kp T.B_are_spans (sa_cons (se_var (pv 3)) (sa_cons (se_var (pv 1)) (sa_cons (se_var (pv 2)) sa_nil)))))))))) (ss_one (ss_ret se_bl)) ss_nil) (ss_cons (ss_if (PW.pt (sw_or (st_not (st_tru (se_isi (T := "tuple") (by decide) (se_var (pv 4)) (by rfl) T.n_isinstance (by rfl) T.n_tuple bt_tuple))) (sw_or1 (st_cmp o_gt (se_callB b_len (by rfl) T.n_len bt_len (sa_cons (se_var (pv 4)) sa_nil)) (se_c (pe_glob (v := .int 30) (by rfl) T.g_MOST_BOUNDS ⟨_, rfl⟩) (fun _ _ => .int _)) (nomark _))))) (ss_one (ss_ret se_bl)) ss_nil) (ss_one (ss_ret (se_callB (b_all rfl) (by rfl) T.n_all bt_all (sa_cons (se_lc (pe_lc (own := [("bound", 5)]) rfl sc_is_book.nd (si_seq (se_var (pv 4))) (blkOk_by (own := [("bound", 5)]) (N := ["thing", "end", "many", "spans", "bounds", "bound"]) (sc := defScope s_is_book) (by decide +kernel)) (fun _ _ _ _ _ => (sgw_name (i := 5) (by decide) sc_is_book.nd rfl (by first | exact .inl rfl | exact .inr rfl))) (fun _ _ _ _ _ => sts_nil) (fun _ _ _ _ _ => (se_call takes0 (ok_is_bound T) (hr.mono (by decide)) (by rfl) T.m_is_bound T.F_is_bound.kp T.B_is_bound (sa_cons (se_var (pv 5)) (sa_cons (se_var (pv 2)) sa_nil)))))) sa_nil)))))))))
theorem ok_check_book (T : TX K mg) : FnOk P w K mg base (L2.CX P w) 6 T.a_check_book T.fd_check_book ["book"] (spG K mg 1 F_check_book) := okG (k := 5) b_check_book T.F_check_book sc_check_book rfl rfl rfl (fun cdv A outer s H E hr =>
  (ss_one (ss_if (st_not (st_tru (se_call (takes_of rfl rfl rfl rfl) (ok_is_book T) (hr.mono (by decide)) (by rfl) T.m_is_book T.F_is_book.kp T.B_is_book (sa_cons (se_var (pv 0)) sa_nil)))) (ss_one (ss_raiseT T.e_NoBook rfl (takes_of rfl rfl rfl rfl) (by rfl))) ss_nil)))
theorem ok_check_mark (T : TX K mg) : FnOk P w K mg base (L2.CX P w) 3 T.a_check_mark T.fd_check_mark ["book", "mark"] (spG K mg 2 F_check_mark) := okG (k := 2) b_check_mark T.F_check_mark sc_check_mark rfl rfl rfl (fun cdv A outer s H E hr =>
  (ss_one (ss_if (st_not (st_tru (se_call (takes_of rfl rfl rfl rfl) (ok_is_within T) (hr.mono (by decide)) (by rfl) T.m_is_within T.F_is_within.kp T.B_is_within (sa_cons (se_var (pv 1)) (sa_cons se_int (sa_cons (se_bin o_sub (se_ix (hu_of hr) (se_var (pv 0)) se_int (fun _ _ => rfl)) se_int) sa_nil)))))) (ss_one (ss_raiseT T.e_NoMark rfl (takes_of rfl rfl rfl rfl) (by rfl))) ss_nil)))
theorem ok_froms (T : TX K mg) : FnOk P w K mg base (L2.CX P w) 2 T.a_froms T.fd_froms ["book"] (spG K mg 1 F_froms) := okG (k := 1) b_froms T.F_froms sc_froms rfl rfl rfl (fun cdv A outer s H E hr =>
  (ss_one (ss_ret (se_call (takes_of rfl rfl rfl rfl) (ok_spans_by_goal T) (hr.mono (by decide)) (by rfl) T.m_spans_by_goal T.F_spans_by_goal.kp T.B_spans_by_goal (sa_cons (se_ix (hu_of hr) (se_var (pv 0)) se_int (fun _ _ => rfl)) sa_nil)))))
theorem ok_ways_of (T : TX K mg) : FnOk P w K mg base (L2.CX P w) 3 T.a_ways_of T.fd_ways_of ["book"] (spG K mg 1 F_ways_of) := okG (k := 2) b_ways_of T.F_ways_of sc_ways_of rfl rfl rfl (fun cdv A outer s H E hr =>
  (ss_cons (ss_set (i := 1) sc_ways_of.nd rfl (.inr rfl) (se_call (takes_of rfl rfl rfl rfl) (ok_froms T) (hr.mono (by decide)) (by rfl) T.m_froms T.F_froms.kp T.B_froms (sa_cons (se_var (pv 0)) sa_nil))) (ss_one (ss_ret (se_lc (pe_lc (own := [("mark", 2)]) rfl sc_ways_of.nd (si_range1 (by rfl) T.n_range (sa_cons (se_ix (hu_of hr) (se_var (pv 0)) se_int (fun _ _ => rfl)) sa_nil)) (blkOk_by (own := [("mark", 2)]) (N := ["book", "known", "mark"]) (sc := defScope s_ways_of) (by decide +kernel)) (fun _ _ _ _ _ => (sgw_name (i := 2) (by decide) sc_ways_of.nd rfl (by first | exact .inl rfl | exact .inr rfl))) (fun _ _ _ _ _ => sts_nil) (fun _ _ _ _ _ => (se_call takes0 (ok_way_from T) (hr.mono (by decide)) (by rfl) T.m_way_from T.F_way_from.kp T.B_way_from (sa_cons (se_ix (hu_of hr) (se_var (pv 0)) se_int (fun _ _ => rfl)) (sa_cons (se_var (pv 1)) (sa_cons (se_var (pv 2)) sa_nil)))))))))))
theorem ok_chosen (T : TX K mg) : FnOk P w K mg base (L2.CX P w) 7 T.a_chosen T.fd_chosen ["book"] (spG K mg 1 F_chosen) := okG (k := 6) b_chosen T.F_chosen sc_chosen rfl rfl rfl (fun cdv A outer s H E hr =>
  (ss_cons (ss_expr (se_call (takes_of rfl rfl rfl rfl) (ok_check_book T) (hr.mono (by decide)) (by rfl) T.m_check_book T.F_check_book.kp T.B_check_book (sa_cons (se_var (pv 0)) sa_nil))) (ss_cons (ss_set (i := 1) sc_chosen.nd rfl (.inr rfl) (se_call (takes_of rfl rfl rfl rfl) (ok_froms T) (hr.mono (by decide)) (by rfl) T.m_froms T.F_froms.kp T.B_froms (sa_cons (se_var (pv 0)) sa_nil))) (ss_one (ss_ret (se_callTy b_tuple (by rfl) T.n_tuple bt_tuple (sa_cons (se_lc (pe_lc (own := [("mark", 2)]) rfl sc_chosen.nd (si_range2 (by rfl) T.n_range (sa_cons se_int (sa_cons (se_ix (hu_of hr) (se_var (pv 0)) se_int (fun _ _ => rfl)) sa_nil))) (blkOk_by (own := [("mark", 2)]) (N := ["book", "known", "mark"]) (sc := defScope s_chosen) (by decide +kernel)) (fun _ _ _ _ _ => (sgw_name (i := 2) (by decide) sc_chosen.nd rfl (by first | exact .inl rfl | exact .inr rfl))) (fun _ _ _ _ _ => (sts_one (st_cmp (o_nin hr.units) (se_var (pv 2)) (se_var (pv 1)) (by rfl)))) (fun _ _ _ _ _ => (se_var (pv 2))))) sa_nil)))))))
theorem ok_root (T : TX K mg) : FnOk P w K mg base (L2.CX P w) 7 T.a_root T.fd_root ["book", "mark"] (spG K mg 2 F_root) := okG (k := 6) b_root T.F_root sc_root rfl rfl rfl (fun cdv A outer s H E hr =>
  (ss_cons (ss_expr (se_call (takes_of rfl rfl rfl rfl) (ok_check_book T) (hr.mono (by decide)) (by rfl) T.m_check_book T.F_check_book.kp T.B_check_book (sa_cons (se_var (pv 0)) sa_nil))) (ss_cons (ss_expr (se_call (takes_of rfl rfl rfl rfl) (ok_check_mark T) (hr.mono (by decide)) (by rfl) T.m_check_mark T.F_check_mark.kp T.B_check_mark (sa_cons (se_var (pv 0)) (sa_cons (se_var (pv 1)) sa_nil)))) (ss_cons (ss_for (passes_of rfl) rfl (si_seq (se_ix (hu_of hr) (se_call (takes_of rfl rfl rfl rfl) (ok_ways_of T) (hr.mono (by decide)) (by rfl) T.m_ways_of T.F_ways_of.kp T.B_ways_of (sa_cons (se_var (pv 0)) sa_nil)) (se_var (pv 1)) (fun _ _ => rfl))) (sg_name (i := 2) sc_root.nd rfl (.inl rfl)) (ss_one (ss_set (i := 1) sc_root.nd rfl (.inl rfl) (se_ix (hu_of hr) (se_ix (hu_of hr) (se_ix (hu_of hr) (se_var (pv 0)) se_int (fun _ _ => rfl)) (se_var (pv 2)) (fun _ _ => rfl)) se_int (fun _ _ => rfl))))) (ss_one (ss_ret (se_var (pv 1))))))))
theorem ok_show_book (T : TX K mg) : FnOk P w K mg base (L2.CX P w) 7 T.a_show_book T.fd_show_book ["book"] (spG K mg 1 F_show_book) := okG (k := 6) b_show_book T.F_show_book sc_show_book rfl rfl rfl (fun cdv A outer s H E hr =>
  (ss_cons (ss_expr (se_call (takes_of rfl rfl rfl rfl) (ok_check_book T) (hr.mono (by decide)) (by rfl) T.m_check_book T.F_check_book.kp T.B_check_book (sa_cons (se_var (pv 0)) sa_nil))) ss_never))
theorem ok__law_pool (T : TX K mg) : FnOk P w K mg base (L2.CX P w) 1 T.a__law_pool T.fd__law_pool ["_law_script", "_law_k"] (spG K mg 2 F__law_pool) := okG (k := 0) b__law_pool T.F__law_pool sc__law_pool rfl rfl rfl (fun cdv A outer s H E hr =>
  (ss_cons (ss_set (i := 2) sc__law_pool.nd rfl (.inl rfl) (se_callB (b_sum rfl) (by rfl) T.n_sum bt_sum (sa_cons (se_sl (se_var (pv 0)) (so_some (se_var (pv 1))) (so_some (se_bin o_add (se_var (pv 1)) se_int))) sa_nil))) (ss_cons (ss_if (PW.pt (sw_or (st_cmp o_lt (se_var (pv 2)) se_int (nomark _)) (sw_or1 (st_cmp o_ge (se_var (pv 2)) (se_bin o_pow se_int se_int) (nomark _))))) (ss_one (ss_ret (se_lstM (sa_cons (se_bin o_mod (se_callB b_abs (by rfl) T.n_abs bt_abs (sa_cons (se_var (pv 2)) sa_nil)) (se_bin o_mul (se_bin o_mul (se_bin o_mul (se_bin o_mul (se_bin o_mul (se_bin o_pow se_int se_int) (se_bin o_pow se_int se_int)) (se_bin o_pow se_int se_int)) (se_bin o_pow se_int se_int)) (se_bin o_pow se_int se_int)) (se_bin o_pow se_int se_int))) sa_nil)))) ss_nil) (ss_cons (ss_set (i := 3) sc__law_pool.nd rfl (.inl rfl) (se_bin o_add (se_bin o_add (se_bin o_mul (se_var (pv 2)) se_int) (se_bin o_mul (se_bin o_mul se_int (se_var (pv 1))) (se_var (pv 1)))) se_int)) (ss_cons (ss_set (i := 4) sc__law_pool.nd rfl (.inl rfl) se_int) (ss_cons (ss_for (passes_of rfl) rfl (si_range1 (by rfl) T.n_range (sa_cons se_int sa_nil)) (sg_name (i := 5) sc__law_pool.nd rfl (.inl rfl)) (ss_cons (ss_set (i := 3) sc__law_pool.nd rfl (.inl rfl) (se_bin o_mod (se_bin o_add (se_bin o_add (se_bin o_mul (se_bin o_mod (se_var (pv 3)) se_int) se_int) (se_bin o_mul se_int (se_var (pv 5)))) se_int) se_int)) (ss_one (ss_set (i := 4) sc__law_pool.nd rfl (.inl rfl) (se_bin o_add (se_bin o_mul (se_var (pv 4)) (se_bin o_pow se_int se_int)) (se_bin o_mod (se_bin o_mul (se_var (pv 3)) (se_bin o_add (se_bin o_mod (se_var (pv 3)) se_int) se_int)) se_int)))))) (ss_one (ss_ret (se_lstM (sa_cons (se_var (pv 4)) sa_nil))))))))))
theorem ok__law_take (T : TX K mg) : FnOk P w K mg base (L2.CX P w) 1 T.a__law_take T.fd__law_take ["_law_pool_here", "_law_many"] (spG K mg 2 F__law_take) := okG (k := 0) b__law_take T.F__law_take sc__law_take rfl rfl rfl (fun cdv A outer s H E hr =>
  (ss_cons (ss_asg (ps_asg (se_callB b_divmod (by rfl) T.n_divmod bt_divmod (sa_cons (se_ix (hu_of hr) (se_var (pv 0)) se_int (fun _ _ => rfl)) (sa_cons (se_var (pv 1)) sa_nil))) (sg_tup (pg_tup rfl (sgs_cons (sg_sub (W := W0) (se_var (pv 0)) se_int setL_ok (pg_sub (se_var (pv 0)) se_int set_list)) (sgs_cons (sg_name (i := 2) sc__law_take.nd rfl (.inl rfl)) sgs_nil)))))) (ss_one (ss_ret (se_var (pv 2))))))
theorem ok__law_bounds (T : TX K mg) : FnOk P w K mg base (L2.CX P w) 2 T.a__law_bounds T.fd__law_bounds ["_law_pool_here", "_law_many"] (spG K mg 2 F__law_bounds) := okG (k := 1) b__law_bounds T.F__law_bounds sc__law_bounds rfl rfl rfl (fun cdv A outer s H E hr =>
  (ss_cons (ss_set (i := 2) sc__law_bounds.nd rfl (.inl rfl) (se_lstM sa_nil)) (ss_cons (ss_for (passes_of rfl) rfl (si_range1 (by rfl) T.n_range (sa_cons (se_bin o_add se_int (se_call (takes_of rfl rfl rfl rfl) (ok__law_take T) (hr.mono (by decide)) (by rfl) T.m__law_take T.F__law_take.kp T.B__law_take (sa_cons (se_var (pv 0)) (sa_cons se_int sa_nil)))) sa_nil)) (sg_name (i := 3) sc__law_bounds.nd rfl (.inl rfl)) (ss_cons (ss_set (i := 4) sc__law_bounds.nd rfl (.inl rfl) (se_call (takes_of rfl rfl rfl rfl) (ok__law_take T) (hr.mono (by decide)) (by rfl) T.m__law_take T.F__law_take.kp T.B__law_take (sa_cons (se_var (pv 0)) (sa_cons (se_var (pv 1)) sa_nil)))) (ss_one (ss_expr (se_app (se_var (pv 2)) (se_tup (sa_cons (se_var (pv 4)) (sa_cons (se_bin o_mod (se_bin o_add (se_bin o_add (se_var (pv 4)) se_int) (se_call (takes_of rfl rfl rfl rfl) (ok__law_take T) (hr.mono (by decide)) (by rfl) T.m__law_take T.F__law_take.kp T.B__law_take (sa_cons (se_var (pv 0)) (sa_cons (se_bin o_sub (se_var (pv 1)) se_int) sa_nil)))) (se_var (pv 1))) (sa_cons (se_bin o_sub (se_call (takes_of rfl rfl rfl rfl) (ok__law_take T) (hr.mono (by decide)) (by rfl) T.m__law_take T.F__law_take.kp T.B__law_take (sa_cons (se_var (pv 0)) (sa_cons se_int sa_nil))) se_int) sa_nil))))))))) (ss_frz 2 (ss_one (ss_ret (se_callTy b_tuple (by rfl) T.n_tuple bt_tuple (sa_cons (se_var (pv 2)) sa_nil))))))))
theorem ok__law_sizes (T : TX K mg) : FnOk P w K mg base (L2.CX P w) 2 T.a__law_sizes T.fd__law_sizes ["_law_pool_here", "_law_book"] (spG K mg 2 F__law_sizes) := okG (k := 1) b__law_sizes T.F__law_sizes sc__law_sizes rfl rfl rfl (fun cdv A outer s H E hr =>
  (ss_cons (ss_asg (ps_asg (se_var (pv 1)) (sg_tup (pg_tup rfl (sgs_cons (sg_name (i := 2) sc__law_sizes.nd rfl (.inr rfl)) (sgs_cons (sg_name (i := 3) sc__law_sizes.nd rfl (.inl rfl)) (sgs_cons (sg_name (i := 4) sc__law_sizes.nd rfl (.inl rfl)) (sgs_cons (sg_name (i := 5) sc__law_sizes.nd rfl (.inl rfl)) sgs_nil)))))))) (ss_cons (ss_set (i := 6) sc__law_sizes.nd rfl (.inl rfl) (se_callTy b_tuple (by rfl) T.n_tuple bt_tuple (sa_cons (se_lc (pe_lc (own := [("_law_k", 8)]) rfl sc__law_sizes.nd (si_range1 (by rfl) T.n_range (sa_cons se_int sa_nil)) (blkOk_by (own := [("_law_k", 8)]) (N := ["_law_pool_here", "_law_book", "_law_end", "_law_many", "_law_spans", "_law_bounds_here", "_law_full", "_law_some", "_law_k"]) (sc := defScope s__law_sizes) (by decide +kernel)) (fun _ _ _ _ _ => (sgw_name (i := 8) (by decide) sc__law_sizes.nd rfl (by first | exact .inl rfl | exact .inr rfl))) (fun _ _ _ _ _ => sts_nil) (fun _ _ _ _ _ => (se_tup (sa_cons se_int (sa_cons (se_bin o_add (se_var (pv 8)) se_int) (sa_cons (se_bin o_add se_int (se_call takes0 (ok__law_take T) (hr.mono (by decide)) (by rfl) T.m__law_take T.F__law_take.kp T.B__law_take (sa_cons (se_var (pv 0)) (sa_cons (se_var (pv 2)) sa_nil)))) (sa_cons (se_var (pv 2)) sa_nil)))))))) sa_nil))) (ss_cons (ss_set (i := 7) sc__law_sizes.nd rfl (.inl rfl) (se_lst (sa_cons (se_tup (sa_cons (se_tup (sa_cons (se_var (pv 2)) (sa_cons se_int (sa_cons (se_sl (se_var (pv 6)) so_none (so_some se_int)) (sa_cons (se_var (pv 5)) sa_nil))))) (sa_cons se_bl sa_nil))) (sa_cons (se_tup (sa_cons (se_tup (sa_cons (se_var (pv 2)) (sa_cons se_int (sa_cons (se_var (pv 6)) (sa_cons (se_var (pv 5)) sa_nil))))) (sa_cons se_bl sa_nil))) (sa_cons (se_tup (sa_cons (se_tup (sa_cons (se_var (pv 2)) (sa_cons se_int (sa_cons (se_var (pv 4)) (sa_cons (se_var (pv 5)) sa_nil))))) (sa_cons se_bl sa_nil))) sa_nil))))) (ss_cons (ss_set (i := 7) sc__law_sizes.nd rfl (.inl rfl) (se_bin o_add (se_var (pv 7)) (se_lst (sa_cons (se_tup (sa_cons (se_tup (sa_cons (se_var (pv 2)) (sa_cons se_int (sa_cons (se_var (pv 4)) (sa_cons (se_var (pv 5)) sa_nil))))) (sa_cons se_bl sa_nil))) (sa_cons (se_tup (sa_cons (se_tup (sa_cons (se_var (pv 2)) (sa_cons se_int (sa_cons (se_tup sa_nil) (sa_cons (se_tup sa_nil) sa_nil))))) (sa_cons se_bl sa_nil))) (sa_cons (se_tup (sa_cons (se_tup (sa_cons (se_var (pv 2)) (sa_cons (se_neg se_int) (sa_cons (se_tup sa_nil) (sa_cons (se_tup sa_nil) sa_nil))))) (sa_cons se_bl sa_nil))) sa_nil)))))) (ss_cons (ss_set (i := 7) sc__law_sizes.nd rfl (.inl rfl) (se_bin o_add (se_var (pv 7)) (se_lst (sa_cons (se_tup (sa_cons (se_tup (sa_cons (se_var (pv 2)) (sa_cons se_int (sa_cons (se_tup sa_nil) (sa_cons (se_tup sa_nil) sa_nil))))) (sa_cons se_bl sa_nil))) (sa_cons (se_tup (sa_cons (se_tup (sa_cons se_int (sa_cons (se_var (pv 3)) (sa_cons (se_var (pv 4)) (sa_cons (se_var (pv 5)) sa_nil))))) (sa_cons se_bl sa_nil))) (sa_cons (se_tup (sa_cons (se_tup (sa_cons se_int (sa_cons (se_var (pv 3)) (sa_cons (se_var (pv 4)) (sa_cons (se_var (pv 5)) sa_nil))))) (sa_cons se_bl sa_nil))) sa_nil)))))) (ss_cons (ss_set (i := 7) sc__law_sizes.nd rfl (.inl rfl) (se_bin o_add (se_var (pv 7)) (se_lst (sa_cons (se_tup (sa_cons (se_tup (sa_cons se_int (sa_cons (se_var (pv 3)) (sa_cons (se_tup sa_nil) (sa_cons (se_var (pv 5)) sa_nil))))) (sa_cons se_bl sa_nil))) (sa_cons (se_tup (sa_cons (se_tup (sa_cons se_int (sa_cons (se_var (pv 3)) (sa_cons (se_tup sa_nil) (sa_cons (se_var (pv 5)) sa_nil))))) (sa_cons se_bl sa_nil))) (sa_cons (se_tup (sa_cons (se_tup (sa_cons (se_neg se_int) (sa_cons (se_var (pv 3)) (sa_cons (se_tup sa_nil) (sa_cons (se_var (pv 5)) sa_nil))))) (sa_cons se_bl sa_nil))) sa_nil)))))) (ss_cons (ss_set (i := 7) sc__law_sizes.nd rfl (.inl rfl) (se_bin o_add (se_var (pv 7)) (se_lst (sa_cons (se_tup (sa_cons (se_tup (sa_cons (se_bin o_pow se_int se_int) (sa_cons (se_var (pv 3)) (sa_cons (se_tup sa_nil) (sa_cons (se_var (pv 5)) sa_nil))))) (sa_cons se_bl sa_nil))) (sa_cons (se_tup (sa_cons (se_tup (sa_cons (se_var (pv 2)) (sa_cons (se_var (pv 3)) (sa_cons (se_tup sa_nil) (sa_cons (se_sl (se_bin o_repTD (se_var (pv 5)) se_int) so_none (so_some se_int)) sa_nil))))) (sa_cons se_bl sa_nil))) sa_nil))))) (ss_one (ss_ret (se_bin o_add (se_var (pv 7)) (se_lst (sa_cons (se_tup (sa_cons (se_tup (sa_cons (se_var (pv 2)) (sa_cons (se_var (pv 3)) (sa_cons (se_tup sa_nil) (sa_cons (se_sl (se_bin o_repTD (se_var (pv 5)) se_int) so_none (so_some se_int)) sa_nil))))) (sa_cons se_bl sa_nil))) (sa_cons (se_tup (sa_cons (se_tup (sa_cons (se_var (pv 2)) (sa_cons (se_var (pv 3)) (sa_cons (se_tup sa_nil) (sa_cons (se_tup sa_nil) sa_nil))))) (sa_cons se_bl sa_nil))) sa_nil))))))))))))))
theorem ok__law_of_spans (T : TX K mg) : FnOk P w K mg base (L2.CX P w) 2 T.a__law_of_spans T.fd__law_of_spans ["_law_pool_here", "_law_book"] (spG K mg 2 F__law_of_spans) := okG (k := 1) b__law_of_spans T.F__law_of_spans sc__law_of_spans rfl rfl rfl (fun cdv A outer s H E hr =>
  (ss_cons (ss_asg (ps_asg (se_var (pv 1)) (sg_tup (pg_tup rfl (sgs_cons (sg_name (i := 2) sc__law_of_spans.nd rfl (.inr rfl)) (sgs_cons (sg_name (i := 3) sc__law_of_spans.nd rfl (.inr rfl)) (sgs_cons (sg_name (i := 4) sc__law_of_spans.nd rfl (.inl rfl)) (sgs_cons (sg_name (i := 5) sc__law_of_spans.nd rfl (.inr rfl)) sgs_nil)))))))) (ss_cons (ss_asg (ps_asg (se_ix (hu_of hr) (se_var (pv 4)) se_int (fun _ _ => rfl)) (sg_tup (pg_tup rfl (sgs_cons (sg_name (i := 6) sc__law_of_spans.nd rfl (.inl rfl)) (sgs_cons (sg_name (i := 7) sc__law_of_spans.nd rfl (.inl rfl)) (sgs_cons (sg_name (i := 8) sc__law_of_spans.nd rfl (.inl rfl)) (sgs_cons (sg_name (i := 9) sc__law_of_spans.nd rfl (.inl rfl)) sgs_nil)))))))) (ss_cons (ss_set (i := 10) sc__law_of_spans.nd rfl (.inl rfl) (se_bin o_mod (se_bin o_add (se_bin o_add (se_var (pv 7)) se_int) (se_call (takes_of rfl rfl rfl rfl) (ok__law_take T) (hr.mono (by decide)) (by rfl) T.m__law_take T.F__law_take.kp T.B__law_take (sa_cons (se_var (pv 0)) (sa_cons (se_bin o_sub (se_var (pv 3)) se_int) sa_nil)))) (se_var (pv 3)))) (ss_cons (ss_set (i := 11) sc__law_of_spans.nd rfl (.inl rfl) (se_lst (sa_cons (se_tup (sa_cons (se_var (pv 10)) (sa_cons (se_var (pv 7)) (sa_cons se_int (sa_cons (se_var (pv 2)) sa_nil))))) (sa_cons (se_tup (sa_cons (se_var (pv 10)) (sa_cons (se_var (pv 7)) (sa_cons (se_var (pv 2)) (sa_cons (se_var (pv 2)) sa_nil))))) (sa_cons (se_tup (sa_cons (se_var (pv 10)) (sa_cons (se_var (pv 7)) (sa_cons se_int (sa_cons se_int sa_nil))))) (sa_cons (se_tup (sa_cons (se_var (pv 10)) (sa_cons (se_var (pv 7)) (sa_cons (se_var (pv 8)) (sa_cons (se_var (pv 9)) sa_nil))))) sa_nil)))))) (ss_cons (ss_setLc (ps_setLc (i := 11) (own := [("_law_span", 13)]) rfl sc__law_of_spans.nd rfl rfl (sw_true rfl rfl rfl (by decide +kernel)) (si_seq (se_var (pv 11))) (blkOk_by (own := [("_law_span", 13)]) (N := ["_law_pool_here", "_law_book", "_law_end", "_law_many", "_law_spans", "_law_bounds_here", "_law_one", "_law_other", "_law_least", "_law_longest", "_law_third", "_law_some", "_law_bad", "_law_span"]) (sc := defScope s__law_of_spans) (by decide +kernel)) (fun _ _ _ _ _ => (sgw_name (i := 13) (by decide) sc__law_of_spans.nd rfl (by first | exact .inl rfl | exact .inr rfl))) (fun _ _ _ _ _ => sts_nil) (fun _ _ _ _ _ => (se_tup (sa_cons (se_tup (sa_cons (se_var (pv 2)) (sa_cons (se_var (pv 3)) (sa_cons (se_tup (sa_cons (se_var (pv 13)) sa_nil)) (sa_cons (se_var (pv 5)) sa_nil))))) (sa_cons se_bl sa_nil)))))) (ss_cons (ss_set (i := 12) sc__law_of_spans.nd rfl (.inl rfl) (se_lstM (sa_cons (se_tup (sa_cons (se_var (pv 3)) (sa_cons (se_var (pv 7)) (sa_cons se_int (sa_cons se_int sa_nil))))) (sa_cons (se_tup (sa_cons (se_neg se_int) (sa_cons (se_var (pv 7)) (sa_cons se_int (sa_cons se_int sa_nil))))) (sa_cons (se_tup (sa_cons (se_bin o_sub (se_var (pv 7)) (se_var (pv 3))) (sa_cons (se_var (pv 7)) (sa_cons se_int (sa_cons se_int sa_nil))))) (sa_cons (se_tup (sa_cons (se_var (pv 10)) (sa_cons (se_var (pv 3)) (sa_cons se_int (sa_cons se_int sa_nil))))) (sa_cons (se_tup (sa_cons se_int (sa_cons se_int (sa_cons se_int (sa_cons se_int sa_nil))))) sa_nil))))))) (ss_cons (ss_set (i := 12) sc__law_of_spans.nd rfl (.inl rfl) (se_catM (se_var (pv 12)) (se_lst (sa_cons (se_tup (sa_cons (se_var (pv 7)) (sa_cons se_int (sa_cons se_int (sa_cons se_int sa_nil))))) (sa_cons (se_tup (sa_cons (se_var (pv 6)) (sa_cons (se_neg se_int) (sa_cons se_int (sa_cons se_int sa_nil))))) (sa_cons (se_tup (sa_cons (se_var (pv 6)) (sa_cons (se_bin o_sub (se_var (pv 7)) (se_var (pv 3))) (sa_cons se_int (sa_cons se_int sa_nil))))) (sa_cons (se_tup (sa_cons (se_var (pv 7)) (sa_cons (se_var (pv 7)) (sa_cons se_int (sa_cons se_int sa_nil))))) sa_nil))))))) (ss_cons (ss_set (i := 12) sc__law_of_spans.nd rfl (.inl rfl) (se_catM (se_var (pv 12)) (se_lst (sa_cons (se_tup (sa_cons (se_var (pv 6)) (sa_cons (se_var (pv 7)) (sa_cons se_int (sa_cons (se_var (pv 2)) sa_nil))))) (sa_cons (se_tup (sa_cons (se_var (pv 6)) (sa_cons (se_var (pv 7)) (sa_cons se_int (sa_cons (se_bin o_add (se_var (pv 2)) se_int) sa_nil))))) (sa_cons (se_tup (sa_cons (se_var (pv 6)) (sa_cons (se_var (pv 7)) (sa_cons (se_bin o_add (se_var (pv 9)) se_int) (sa_cons (se_var (pv 9)) sa_nil))))) sa_nil)))))) (ss_cons (ss_expr (se_app (se_var (pv 12)) (se_tup (sa_cons (se_var (pv 6)) (sa_cons (se_var (pv 7)) (sa_cons (se_neg se_int) (sa_cons se_int sa_nil))))))) (ss_cons (ss_set (i := 12) sc__law_of_spans.nd rfl (.inl rfl) (se_catM (se_var (pv 12)) (se_lst (sa_cons (se_tup (sa_cons (se_var (pv 6)) (sa_cons (se_var (pv 7)) (sa_cons se_int (sa_cons se_int sa_nil))))) (sa_cons (se_tup (sa_cons (se_var (pv 6)) (sa_cons (se_var (pv 7)) (sa_cons se_int (sa_cons se_int sa_nil))))) (sa_cons (se_tup (sa_cons (se_var (pv 6)) (sa_cons (se_var (pv 7)) (sa_cons (se_bin o_add (se_var (pv 2)) se_int) (sa_cons (se_bin o_add (se_var (pv 2)) se_int) sa_nil))))) sa_nil)))))) (ss_frz 12 (ss_one (ss_ret (se_bin o_add (se_var (pv 11)) (se_lc (pe_lc (own := [("_law_span", 13)]) rfl sc__law_of_spans.nd (si_seq (se_var (pv 12))) (blkOk_by (own := [("_law_span", 13)]) (N := ["_law_pool_here", "_law_book", "_law_end", "_law_many", "_law_spans", "_law_bounds_here", "_law_one", "_law_other", "_law_least", "_law_longest", "_law_third", "_law_some", "_law_bad", "_law_span"]) (sc := defScope s__law_of_spans) (by decide +kernel)) (fun _ _ _ _ _ => (sgw_name (i := 13) (by decide) sc__law_of_spans.nd rfl (by first | exact .inl rfl | exact .inr rfl))) (fun _ _ _ _ _ => sts_nil) (fun _ _ _ _ _ => (se_tup (sa_cons (se_tup (sa_cons (se_var (pv 2)) (sa_cons (se_var (pv 3)) (sa_cons (se_tup (sa_cons (se_var (pv 13)) sa_nil)) (sa_cons (se_var (pv 5)) sa_nil))))) (sa_cons se_bl sa_nil)))))))))))))))))))))
theorem ok__law_of_bounds (T : TX K mg) : FnOk P w K mg base (L2.CX P w) 2 T.a__law_of_bounds T.fd__law_of_bounds ["_law_pool_here", "_law_book"] (spG K mg 2 F__law_of_bounds) := okG (k := 1) b__law_of_bounds T.F__law_of_bounds sc__law_of_bounds rfl rfl rfl (fun cdv A outer s H E hr =>
  (ss_cons (ss_asg (ps_asg (se_var (pv 1)) (sg_tup (pg_tup rfl (sgs_cons (sg_name (i := 2) sc__law_of_bounds.nd rfl (.inr rfl)) (sgs_cons (sg_name (i := 3) sc__law_of_bounds.nd rfl (.inr rfl)) (sgs_cons (sg_name (i := 4) sc__law_of_bounds.nd rfl (.inr rfl)) (sgs_cons (sg_name (i := 5) sc__law_of_bounds.nd rfl (.inr rfl)) sgs_nil)))))))) (ss_cons (ss_asg (ps_asg (se_ix (hu_of hr) (se_var (pv 5)) se_int (fun _ _ => rfl)) (sg_tup (pg_tup rfl (sgs_cons (sg_name (i := 6) sc__law_of_bounds.nd rfl (.inl rfl)) (sgs_cons (sg_name (i := 7) sc__law_of_bounds.nd rfl (.inl rfl)) (sgs_cons (sg_name (i := 8) sc__law_of_bounds.nd rfl (.inl rfl)) sgs_nil))))))) (ss_cons (ss_set (i := 9) sc__law_of_bounds.nd rfl (.inl rfl) (se_lst (sa_cons (se_tup (sa_cons (se_var (pv 6)) (sa_cons (se_var (pv 7)) (sa_cons se_int sa_nil)))) (sa_cons (se_tup (sa_cons (se_var (pv 6)) (sa_cons (se_var (pv 7)) (sa_cons (se_neg se_int) sa_nil)))) (sa_cons (se_tup (sa_cons se_int (sa_cons (se_bin o_sub (se_var (pv 3)) se_int) (sa_cons se_int sa_nil)))) (sa_cons (se_tup (sa_cons (se_bin o_sub (se_var (pv 3)) se_int) (sa_cons se_int (sa_cons (se_bin o_sub (se_call (takes_of rfl rfl rfl rfl) (ok__law_take T) (hr.mono (by decide)) (by rfl) T.m__law_take T.F__law_take.kp T.B__law_take (sa_cons (se_var (pv 0)) (sa_cons se_int sa_nil))) se_int) sa_nil)))) sa_nil)))))) (ss_cons (ss_set (i := 10) sc__law_of_bounds.nd rfl (.inl rfl) (se_lstM (sa_cons (se_tup (sa_cons (se_var (pv 6)) (sa_cons (se_var (pv 7)) (sa_cons se_int sa_nil)))) (sa_cons (se_tup (sa_cons (se_var (pv 6)) (sa_cons (se_var (pv 7)) (sa_cons (se_neg se_int) sa_nil)))) (sa_cons (se_tup (sa_cons (se_var (pv 6)) (sa_cons (se_var (pv 6)) (sa_cons (se_var (pv 8)) sa_nil)))) (sa_cons (se_tup (sa_cons (se_var (pv 3)) (sa_cons (se_var (pv 7)) (sa_cons (se_var (pv 8)) sa_nil)))) (sa_cons (se_tup (sa_cons (se_var (pv 6)) (sa_cons (se_var (pv 3)) (sa_cons (se_var (pv 8)) sa_nil)))) sa_nil))))))) (ss_cons (ss_set (i := 10) sc__law_of_bounds.nd rfl (.inl rfl) (se_catM (se_var (pv 10)) (se_lst (sa_cons (se_tup (sa_cons (se_neg se_int) (sa_cons (se_var (pv 7)) (sa_cons (se_var (pv 8)) sa_nil)))) (sa_cons (se_tup (sa_cons (se_var (pv 6)) (sa_cons (se_neg se_int) (sa_cons (se_var (pv 8)) sa_nil)))) (sa_cons (se_tup (sa_cons (se_bin o_sub (se_var (pv 6)) (se_var (pv 3))) (sa_cons (se_var (pv 7)) (sa_cons (se_var (pv 8)) sa_nil)))) (sa_cons (se_tup (sa_cons (se_var (pv 6)) (sa_cons (se_var (pv 7)) (sa_cons (se_bin o_pow se_int se_int) sa_nil)))) sa_nil))))))) (ss_cons (ss_expr (se_app (se_var (pv 10)) (se_tup (sa_cons se_int (sa_cons se_int (sa_cons se_int sa_nil)))))) (ss_frz 10 (ss_cons (ss_setLc (ps_setLc (i := 11) (own := [("_law_bound", 12)]) rfl sc__law_of_bounds.nd rfl rfl (sw_true rfl rfl rfl (by decide +kernel)) (si_seq (se_var (pv 9))) (blkOk_by (own := [("_law_bound", 12)]) (N := ["_law_pool_here", "_law_book", "_law_end", "_law_many", "_law_spans", "_law_bounds_here", "_law_one", "_law_other", "_law_number", "_law_good", "_law_bad", "_law_some", "_law_bound"]) (sc := defScope s__law_of_bounds) (by decide +kernel)) (fun _ _ _ _ _ => (sgw_name (i := 12) (by decide) sc__law_of_bounds.nd rfl (by first | exact .inl rfl | exact .inr rfl))) (fun _ _ _ _ _ => sts_nil) (fun _ _ _ _ _ => (se_tup (sa_cons (se_tup (sa_cons (se_var (pv 2)) (sa_cons (se_var (pv 3)) (sa_cons (se_var (pv 4)) (sa_cons (se_bin o_add (se_sl (se_var (pv 5)) (so_some se_int) so_none) (se_tup (sa_cons (se_var (pv 12)) sa_nil))) sa_nil))))) (sa_cons se_bl sa_nil)))))) (ss_one (ss_ret (se_bin o_add (se_var (pv 11)) (se_lc (pe_lc (own := [("_law_bound", 12)]) rfl sc__law_of_bounds.nd (si_seq (se_var (pv 10))) (blkOk_by (own := [("_law_bound", 12)]) (N := ["_law_pool_here", "_law_book", "_law_end", "_law_many", "_law_spans", "_law_bounds_here", "_law_one", "_law_other", "_law_number", "_law_good", "_law_bad", "_law_some", "_law_bound"]) (sc := defScope s__law_of_bounds) (by decide +kernel)) (fun _ _ _ _ _ => (sgw_name (i := 12) (by decide) sc__law_of_bounds.nd rfl (by first | exact .inl rfl | exact .inr rfl))) (fun _ _ _ _ _ => sts_nil) (fun _ _ _ _ _ => (se_tup (sa_cons (se_tup (sa_cons (se_var (pv 2)) (sa_cons (se_var (pv 3)) (sa_cons (se_var (pv 4)) (sa_cons (se_bin o_add (se_tup (sa_cons (se_var (pv 12)) sa_nil)) (se_sl (se_var (pv 5)) (so_some se_int) so_none)) sa_nil))))) (sa_cons se_bl sa_nil))))))))))))))))))
theorem ok__law_only (T : TX K mg) : FnOk P w K mg base (L2.CX P w) 1 T.a__law_only T.fd__law_only ["_law_caught"] (spG K mg 1 F__law_only) := okG (k := 0) b__law_only T.F__law_only sc__law_only rfl rfl rfl (fun cdv A outer s H E hr =>
  (ss_cons (ss_if (st_tru (se_isET (tabA_one T.r_NoBook (any_no T.k_NoBook_NoBound (any_no T.k_NoBook_NoDeeds (any_no T.k_NoBook_NoFoe (any_no T.k_NoBook_NoHour (any_no T.k_NoBook_NoHours (any_no T.k_NoBook_NoMark (any_no T.k_NoBook_NoRow (any_no T.k_NoBook_NoRows (any_no T.k_NoBook_NoSpan (any_no T.k_NoBook_NoStory any_nil)))))))))) tabA_nil) (se_var (pv 0)) (by rfl) T.n_isinstance (pcl_one (by rfl) T.d_NoBound (pcl_one (by rfl) T.d_NoDeeds (pcl_one (by rfl) T.d_NoFoe (pcl_one (by rfl) T.d_NoHour (pcl_one (by rfl) T.d_NoHours (pcl_one (by rfl) T.d_NoMark (pcl_one (by rfl) T.d_NoRow (pcl_one (by rfl) T.d_NoRows (pcl_one (by rfl) T.d_NoSpan (pcl_one (by rfl) T.d_NoStory pcl_nil)))))))))))) (ss_one (ss_ret se_bl)) ss_nil) (ss_cons (ss_if (st_tru (se_isET (tabA_one T.r_NoBook (any_no T.k_NoBook_NoTables (any_no T.k_NoBook_NoText (any_no T.k_NoBook_NoUndo (any_no T.k_NoBook_NoWord (any_no T.k_NoBook_TooMany any_nil))))) tabA_nil) (se_var (pv 0)) (by rfl) T.n_isinstance (pcl_one (by rfl) T.d_NoTables (pcl_one (by rfl) T.d_NoText (pcl_one (by rfl) T.d_NoUndo (pcl_one (by rfl) T.d_NoWord (pcl_one (by rfl) T.d_TooMany pcl_nil))))))) (ss_one (ss_ret se_bl)) ss_nil) (ss_one (ss_ret (se_and (se_isE (tabA_one T.r_NoBook (any_yes T.k_NoBook_NoBook) tabA_nil) (se_var (pv 0)) (by rfl) T.n_isinstance (by rfl) T.d_NoBook) (se_one (se_isEB (tabA_one T.r_NoBook (any_yes T.k_NoBook_ValueError) tabA_nil) (se_var (pv 0)) (by rfl) T.n_isinstance (by rfl) T.n_ValueError bt_ValueError))))))))
theorem ok__law_refused (T : TX K mg) : FnOk P w K mg base (L2.CX P w) 8 T.a__law_refused T.fd__law_refused ["_law_thing", "_law_mark"] (spG K mg 2 F__law_refused) := okG (k := 7) b__law_refused T.F__law_refused sc__law_refused rfl rfl rfl (fun cdv A outer s H E hr =>
  (ss_cons (ss_set (i := 2) sc__law_refused.nd rfl (.inl rfl) se_non) (ss_cons (ss_tryE (i := 3) rfl rfl sc__law_refused.nd rfl rfl ⟨rfl, by decide, .inl T.e_HourError.g⟩ rfl (takes_of rfl rfl rfl rfl) (mTab_ok (tab_one T.e_NoBook.g T.x_NoBook_HourError tab_nil)) (tabN_ok (tabN_one T.e_NoBook.g T.r_NoBook tabN_nil)) (fun W pn xe tk1 ps1 => (ss_one (ss_expr (se_call tk1 (ok_root T) (hr.mono (by decide)) (by rfl) T.m_root T.F_root.kp T.B_root (sa_cons (se_var (pv 0)) (sa_cons (se_var (pv 1)) sa_nil)))))) (fun a pn => (ss_one (ss_set (i := 2) sc__law_refused.nd rfl (.inl rfl) (se_var (pv 3)))))) (ss_one (ss_ret (se_call (takes_of rfl rfl rfl rfl) (ok__law_only T) (hr.mono (by decide)) (by rfl) T.m__law_only T.F__law_only.kp T.B__law_only (sa_cons (se_var (pv 2)) sa_nil)))))))
theorem ok__law_refused_all (T : TX K mg) : FnOk P w K mg base (L2.CX P w) 8 T.a__law_refused_all T.fd__law_refused_all ["_law_thing"] (spG K mg 1 F__law_refused_all) := okG (k := 7) b__law_refused_all T.F__law_refused_all sc__law_refused_all rfl rfl rfl (fun cdv A outer s H E hr =>
  (ss_cons (ss_parC (ps_asg (pe_tup (sa_cons se_non (sa_cons se_non sa_nil))) (pg_tup rfl (pgs_cons (pg_name (i := 1) sc__law_refused_all.nd rfl (.inl rfl)) (pgs_cons (pg_name (i := 2) sc__law_refused_all.nd rfl (.inl rfl)) pgs_nil))))) (ss_cons (ss_tryE (i := 3) rfl rfl sc__law_refused_all.nd rfl rfl ⟨rfl, by decide, .inl T.e_HourError.g⟩ rfl (takes_of rfl rfl rfl rfl) (mTab_ok (tab_one T.e_NoBook.g T.x_NoBook_HourError tab_nil)) (tabN_ok (tabN_one T.e_NoBook.g T.r_NoBook tabN_nil)) (fun W pn xe tk1 ps1 => (ss_one (ss_expr (se_call tk1 (ok_chosen T) (hr.mono (by decide)) (by rfl) T.m_chosen T.F_chosen.kp T.B_chosen (sa_cons (se_var (pv 0)) sa_nil))))) (fun a pn => (ss_one (ss_set (i := 1) sc__law_refused_all.nd rfl (.inl rfl) (se_var (pv 3)))))) (ss_cons (ss_tryE (i := 3) rfl rfl sc__law_refused_all.nd rfl rfl ⟨rfl, by decide, .inl T.e_HourError.g⟩ rfl (takes_of rfl rfl rfl rfl) (mTab_ok (tab_one T.e_NoBook.g T.x_NoBook_HourError tab_nil)) (tabN_ok (tabN_one T.e_NoBook.g T.r_NoBook tabN_nil)) (fun W pn xe tk1 ps1 => (ss_one (ss_expr (se_call tk1 (ok_show_book T) (hr.mono (by decide)) (by rfl) T.m_show_book T.F_show_book.kp T.B_show_book (sa_cons (se_var (pv 0)) sa_nil))))) (fun a pn => (ss_one (ss_set (i := 2) sc__law_refused_all.nd rfl (.inl rfl) (se_var (pv 3)))))) (ss_one (ss_ret (se_and (se_call (takes_of rfl rfl rfl rfl) (ok__law_only T) (hr.mono (by decide)) (by rfl) T.m__law_only T.F__law_only.kp T.B__law_only (sa_cons (se_var (pv 1)) sa_nil)) (se_one (se_call (takes_of rfl rfl rfl rfl) (ok__law_only T) (hr.mono (by decide)) (by rfl) T.m__law_only T.F__law_only.kp T.B__law_only (sa_cons (se_var (pv 2)) sa_nil))))))))))
theorem ok__law_right (T : TX K mg) : FnOk P w K mg base (L2.CX P w) 9 T.a__law_right T.fd__law_right ["_law_thing", "_law_due"] (spG K mg 2 F__law_right) := okG (k := 8) b__law_right T.F__law_right sc__law_right rfl rfl rfl (fun cdv A outer s H E hr =>
  (ss_cons (ss_set (i := 2) sc__law_right.nd rfl (.inl rfl) (se_call (takes_of rfl rfl rfl rfl) (ok_is_book T) (hr.mono (by decide)) (by rfl) T.m_is_book T.F_is_book.kp T.B_is_book (sa_cons (se_var (pv 0)) sa_nil))) (ss_cons (ss_if (PW.pt (sw_or (st_not (st_tru (se_isi (T := "bool") (by decide) (se_var (pv 2)) (by rfl) T.n_isinstance (by rfl) T.n_bool bt_bool))) (sw_or1 (st_cmp (o_ne hr.units) (se_var (pv 2)) (se_var (pv 1)) (nomark _))))) (ss_one (ss_ret se_bl)) ss_nil) (ss_cons (ss_if (st_tru (se_var (pv 1))) (ss_one (ss_ret (se_and (se_cmp (o_eq hr.units) (se_call (takes_of rfl rfl rfl rfl) (ok_root T) (hr.mono (by decide)) (by rfl) T.m_root T.F_root.kp T.B_root (sa_cons (se_var (pv 0)) (sa_cons se_int sa_nil))) se_int (nomark _)) (se_one (se_isi (T := "tuple") (by decide) (se_call (takes_of rfl rfl rfl rfl) (ok_chosen T) (hr.mono (by decide)) (by rfl) T.m_chosen T.F_chosen.kp T.B_chosen (sa_cons (se_var (pv 0)) sa_nil)) (by rfl) T.n_isinstance (by rfl) T.n_tuple bt_tuple))))) ss_nil) (ss_one (ss_ret (se_and (se_call (takes_of rfl rfl rfl rfl) (ok__law_refused_all T) (hr.mono (by decide)) (by rfl) T.m__law_refused_all T.F__law_refused_all.kp T.B__law_refused_all (sa_cons (se_var (pv 0)) sa_nil)) (se_one (se_callB (b_all rfl) (by rfl) T.n_all bt_all (sa_cons (se_lc (pe_lc (own := [("_law_mark", 3)]) rfl sc__law_right.nd (si_seq (se_lst (sa_cons se_int (sa_cons (se_neg se_int) (sa_cons se_non (sa_cons (se_lst (sa_cons se_int sa_nil)) sa_nil)))))) (blkOk_by (own := [("_law_mark", 3)]) (N := ["_law_thing", "_law_due", "_law_told", "_law_mark"]) (sc := defScope s__law_right) (by decide +kernel)) (fun _ _ _ _ _ => (sgw_name (i := 3) (by decide) sc__law_right.nd rfl (by first | exact .inl rfl | exact .inr rfl))) (fun _ _ _ _ _ => sts_nil) (fun _ _ _ _ _ => (se_call takes0 (ok__law_refused T) (hr.mono (by decide)) (by rfl) T.m__law_refused T.F__law_refused.kp T.B__law_refused (sa_cons (se_var (pv 0)) (sa_cons (se_var (pv 3)) sa_nil)))))) sa_nil))))))))))
theorem ok_law (T : TX K mg) : FnOk P w K mg base (L2.CX P w) 10 T.a_law T.fd_law ["_law_script"] (spG K mg 1 F_law) := okG (k := 9) b_law T.F_law sc_law rfl rfl rfl (fun cdv A outer s H E hr =>
  (ss_cons (ss_for (passes_of rfl) rfl (si_range1 (by rfl) T.n_range (sa_cons (se_callB (b_max2 rfl) (by rfl) T.n_max bt_max (sa_cons se_int (sa_cons (se_callB (b_min2 rfl) (by rfl) T.n_min bt_min (sa_cons (se_callB b_len (by rfl) T.n_len bt_len (sa_cons (se_var (pv 0)) sa_nil)) (sa_cons se_int sa_nil))) sa_nil))) sa_nil)) (sg_name (i := 1) sc_law.nd rfl (.inl rfl)) (ss_cons (ss_set (i := 2) sc_law.nd rfl (.inl rfl) (se_call (takes_of rfl rfl rfl rfl) (ok__law_pool T) (hr.mono (by decide)) (by rfl) T.m__law_pool T.F__law_pool.kp T.B__law_pool (sa_cons (se_var (pv 0)) (sa_cons (se_var (pv 1)) sa_nil)))) (ss_cons (ss_par2 (ps_par (i := 3) (j := 4) rfl sc_law.nd rfl rfl (by decide) rfl rfl (sa_cons (se_bin o_add se_int (se_call (takes_of rfl rfl rfl rfl) (ok__law_take T) (hr.mono (by decide)) (by rfl) T.m__law_take T.F__law_take.kp T.B__law_take (sa_cons (se_var (pv 2)) (sa_cons se_int sa_nil)))) (sa_cons (se_bin o_add se_int (se_call (takes_of rfl rfl rfl rfl) (ok__law_take T) (hr.mono (by decide)) (by rfl) T.m__law_take T.F__law_take.kp T.B__law_take (sa_cons (se_var (pv 2)) (sa_cons se_int sa_nil)))) sa_nil)) (by rfl))) (ss_cons (ss_set (i := 5) sc_law.nd rfl (.inl rfl) (se_bin o_add se_int (se_call (takes_of rfl rfl rfl rfl) (ok__law_take T) (hr.mono (by decide)) (by rfl) T.m__law_take T.F__law_take.kp T.B__law_take (sa_cons (se_var (pv 2)) (sa_cons (se_bin o_sub (se_var (pv 4)) se_int) sa_nil))))) (ss_cons (ss_set (i := 6) sc_law.nd rfl (.inl rfl) (se_bin o_add se_int (se_call (takes_of rfl rfl rfl rfl) (ok__law_take T) (hr.mono (by decide)) (by rfl) T.m__law_take T.F__law_take.kp T.B__law_take (sa_cons (se_var (pv 2)) (sa_cons (se_var (pv 3)) sa_nil))))) (ss_cons (ss_set (i := 7) sc_law.nd rfl (.inl rfl) (se_tup (sa_cons (se_bin o_mod (se_bin o_add (se_bin o_add (se_var (pv 5)) se_int) (se_call (takes_of rfl rfl rfl rfl) (ok__law_take T) (hr.mono (by decide)) (by rfl) T.m__law_take T.F__law_take.kp T.B__law_take (sa_cons (se_var (pv 2)) (sa_cons (se_bin o_sub (se_var (pv 4)) se_int) sa_nil)))) (se_var (pv 4))) (sa_cons (se_var (pv 5)) (sa_cons (se_var (pv 6)) (sa_cons (se_bin o_add (se_var (pv 6)) (se_call (takes_of rfl rfl rfl rfl) (ok__law_take T) (hr.mono (by decide)) (by rfl) T.m__law_take T.F__law_take.kp T.B__law_take (sa_cons (se_var (pv 2)) (sa_cons (se_bin o_sub (se_bin o_add (se_var (pv 3)) se_int) (se_var (pv 6))) sa_nil)))) sa_nil)))))) (ss_cons (ss_set (i := 8) sc_law.nd rfl (.inl rfl) (se_tup (sa_cons (se_var (pv 3)) (sa_cons (se_var (pv 4)) (sa_cons (se_tup (sa_cons (se_var (pv 7)) sa_nil)) (sa_cons (se_call (takes_of rfl rfl rfl rfl) (ok__law_bounds T) (hr.mono (by decide)) (by rfl) T.m__law_bounds T.F__law_bounds.kp T.B__law_bounds (sa_cons (se_var (pv 2)) (sa_cons (se_var (pv 4)) sa_nil))) sa_nil)))))) (ss_cons (ss_set (i := 9) sc_law.nd rfl (.inl rfl) (se_bin o_add (se_bin o_add (se_bin o_add (se_call (takes_of rfl rfl rfl rfl) (ok__law_sizes T) (hr.mono (by decide)) (by rfl) T.m__law_sizes T.F__law_sizes.kp T.B__law_sizes (sa_cons (se_var (pv 2)) (sa_cons (se_var (pv 8)) sa_nil))) (se_call (takes_of rfl rfl rfl rfl) (ok__law_of_spans T) (hr.mono (by decide)) (by rfl) T.m__law_of_spans T.F__law_of_spans.kp T.B__law_of_spans (sa_cons (se_var (pv 2)) (sa_cons (se_var (pv 8)) sa_nil)))) (se_call (takes_of rfl rfl rfl rfl) (ok__law_of_bounds T) (hr.mono (by decide)) (by rfl) T.m__law_of_bounds T.F__law_of_bounds.kp T.B__law_of_bounds (sa_cons (se_var (pv 2)) (sa_cons (se_var (pv 8)) sa_nil)))) (se_lst (sa_cons (se_tup (sa_cons (se_var (pv 8)) (sa_cons se_bl sa_nil))) sa_nil)))) (ss_one (ss_if (st_not (st_tru (se_callB (b_all rfl) (by rfl) T.n_all bt_all (sa_cons (se_lc (pe_lc (own := [("_law_thing", 10), ("_law_due", 11)]) rfl sc_law.nd (si_seq (se_var (pv 9))) (blkOk_by (own := [("_law_thing", 10), ("_law_due", 11)]) (N := ["_law_script", "_law_k", "_law_pool_here", "_law_end", "_law_many", "_law_goal", "_law_least", "_law_span", "_law_book", "_law_some", "_law_thing", "_law_due"]) (sc := defScope s_law) (by decide +kernel)) (fun _ _ _ _ _ => (sgw_tup (pg_tup rfl (sgsw_cons (sgw_name (i := 10) (by decide) sc_law.nd rfl (by first | exact .inl rfl | exact .inr rfl)) (sgsw_cons (sgw_name (i := 11) (by decide) sc_law.nd rfl (by first | exact .inl rfl | exact .inr rfl)) sgsw_nil))))) (fun _ _ _ _ _ => sts_nil) (fun _ _ _ _ _ => (se_call takes0 (ok__law_right T) (hr.mono (by decide)) (by rfl) T.m__law_right T.F__law_right.kp T.B__law_right (sa_cons (se_var (pv 10)) (sa_cons (se_var (pv 11)) sa_nil)))))) sa_nil)))) (ss_one (ss_ret se_bl)) ss_nil)))))))))) (ss_one (ss_ret se_bl))))
end
theorem all_mk {l : PySem.W.OpenLaw} {w : World} {K : PySem.W.Frag} {h : Heap} {mg : Str → Option Value} {fa : Addr} (hlaw : LawTrue F_law) (X : K.In h) (G : h.Ns mainGlobals mg) (hfa : mg "law" = some (.ref fa))
    {a_is_whole : Addr} {od_is_whole an_is_whole : Option Addr} {sl_is_whole : Array (Option Value)} {oc_is_whole kV_is_whole dc_is_whole pm_is_whole cd_is_whole ct_is_whole : Value}
    (q_is_whole : PySem.W.nsIn K mainGlobals "is_whole" = some (some (.ref a_is_whole))) (l_is_whole : K.lookup a_is_whole = some ⟨oc_is_whole, od_is_whole, .func (PySem.W.fnOf "is_whole" "is_whole" (defArgs s_is_whole) (defBody s_is_whole) (defScope s_is_whole) .none kV_is_whole dc_is_whole pm_is_whole an_is_whole cd_is_whole ct_is_whole), sl_is_whole⟩) (c_is_whole : PySem.W.codeIn K cd_is_whole "is_whole" = true) (k_is_whole : PySem.W.keepIn K (.ref a_is_whole) = true)
    {a_is_within : Addr} {od_is_within an_is_within : Option Addr} {sl_is_within : Array (Option Value)} {oc_is_within kV_is_within dc_is_within pm_is_within cd_is_within ct_is_within : Value}
    (q_is_within : PySem.W.nsIn K mainGlobals "is_within" = some (some (.ref a_is_within))) (l_is_within : K.lookup a_is_within = some ⟨oc_is_within, od_is_within, .func (PySem.W.fnOf "is_within" "is_within" (defArgs s_is_within) (defBody s_is_within) (defScope s_is_within) .none kV_is_within dc_is_within pm_is_within an_is_within cd_is_within ct_is_within), sl_is_within⟩) (c_is_within : PySem.W.codeIn K cd_is_within "is_within" = true) (k_is_within : PySem.W.keepIn K (.ref a_is_within) = true)
    {a_is_span : Addr} {od_is_span an_is_span : Option Addr} {sl_is_span : Array (Option Value)} {oc_is_span kV_is_span dc_is_span pm_is_span cd_is_span ct_is_span : Value}
    (q_is_span : PySem.W.nsIn K mainGlobals "is_span" = some (some (.ref a_is_span))) (l_is_span : K.lookup a_is_span = some ⟨oc_is_span, od_is_span, .func (PySem.W.fnOf "is_span" "is_span" (defArgs s_is_span) (defBody s_is_span) (defScope s_is_span) .none kV_is_span dc_is_span pm_is_span an_is_span cd_is_span ct_is_span), sl_is_span⟩) (c_is_span : PySem.W.codeIn K cd_is_span "is_span" = true) (k_is_span : PySem.W.keepIn K (.ref a_is_span) = true)
    {a_is_bound : Addr} {od_is_bound an_is_bound : Option Addr} {sl_is_bound : Array (Option Value)} {oc_is_bound kV_is_bound dc_is_bound pm_is_bound cd_is_bound ct_is_bound : Value}
    (q_is_bound : PySem.W.nsIn K mainGlobals "is_bound" = some (some (.ref a_is_bound))) (l_is_bound : K.lookup a_is_bound = some ⟨oc_is_bound, od_is_bound, .func (PySem.W.fnOf "is_bound" "is_bound" (defArgs s_is_bound) (defBody s_is_bound) (defScope s_is_bound) .none kV_is_bound dc_is_bound pm_is_bound an_is_bound cd_is_bound ct_is_bound), sl_is_bound⟩) (c_is_bound : PySem.W.codeIn K cd_is_bound "is_bound" = true) (k_is_bound : PySem.W.keepIn K (.ref a_is_bound) = true)
    {a_spans_by_goal : Addr} {od_spans_by_goal an_spans_by_goal : Option Addr} {sl_spans_by_goal : Array (Option Value)} {oc_spans_by_goal kV_spans_by_goal dc_spans_by_goal pm_spans_by_goal cd_spans_by_goal ct_spans_by_goal : Value}
    (q_spans_by_goal : PySem.W.nsIn K mainGlobals "spans_by_goal" = some (some (.ref a_spans_by_goal))) (l_spans_by_goal : K.lookup a_spans_by_goal = some ⟨oc_spans_by_goal, od_spans_by_goal, .func (PySem.W.fnOf "spans_by_goal" "spans_by_goal" (defArgs s_spans_by_goal) (defBody s_spans_by_goal) (defScope s_spans_by_goal) .none kV_spans_by_goal dc_spans_by_goal pm_spans_by_goal an_spans_by_goal cd_spans_by_goal ct_spans_by_goal), sl_spans_by_goal⟩) (c_spans_by_goal : PySem.W.codeIn K cd_spans_by_goal "spans_by_goal" = true) (k_spans_by_goal : PySem.W.keepIn K (.ref a_spans_by_goal) = true)
    {a_way_from : Addr} {od_way_from an_way_from : Option Addr} {sl_way_from : Array (Option Value)} {oc_way_from kV_way_from dc_way_from pm_way_from cd_way_from ct_way_from : Value}
    (q_way_from : PySem.W.nsIn K mainGlobals "way_from" = some (some (.ref a_way_from))) (l_way_from : K.lookup a_way_from = some ⟨oc_way_from, od_way_from, .func (PySem.W.fnOf "way_from" "way_from" (defArgs s_way_from) (defBody s_way_from) (defScope s_way_from) .none kV_way_from dc_way_from pm_way_from an_way_from cd_way_from ct_way_from), sl_way_from⟩) (c_way_from : PySem.W.codeIn K cd_way_from "way_from" = true) (k_way_from : PySem.W.keepIn K (.ref a_way_from) = true)
    {a_are_spans : Addr} {od_are_spans an_are_spans : Option Addr} {sl_are_spans : Array (Option Value)} {oc_are_spans kV_are_spans dc_are_spans pm_are_spans cd_are_spans ct_are_spans : Value}
    (q_are_spans : PySem.W.nsIn K mainGlobals "are_spans" = some (some (.ref a_are_spans))) (l_are_spans : K.lookup a_are_spans = some ⟨oc_are_spans, od_are_spans, .func (PySem.W.fnOf "are_spans" "are_spans" (defArgs s_are_spans) (defBody s_are_spans) (defScope s_are_spans) .none kV_are_spans dc_are_spans pm_are_spans an_are_spans cd_are_spans ct_are_spans), sl_are_spans⟩) (c_are_spans : PySem.W.codeIn K cd_are_spans "are_spans" = true) (k_are_spans : PySem.W.keepIn K (.ref a_are_spans) = true)
    {a_is_book : Addr} {od_is_book an_is_book : Option Addr} {sl_is_book : Array (Option Value)} {oc_is_book kV_is_book dc_is_book pm_is_book cd_is_book ct_is_book : Value}
    (q_is_book : PySem.W.nsIn K mainGlobals "is_book" = some (some (.ref a_is_book))) (l_is_book : K.lookup a_is_book = some ⟨oc_is_book, od_is_book, .func (PySem.W.fnOf "is_book" "is_book" (defArgs s_is_book) (defBody s_is_book) (defScope s_is_book) .none kV_is_book dc_is_book pm_is_book an_is_book cd_is_book ct_is_book), sl_is_book⟩) (c_is_book : PySem.W.codeIn K cd_is_book "is_book" = true) (k_is_book : PySem.W.keepIn K (.ref a_is_book) = true)
    {a_check_book : Addr} {od_check_book an_check_book : Option Addr} {sl_check_book : Array (Option Value)} {oc_check_book kV_check_book dc_check_book pm_check_book cd_check_book ct_check_book : Value}
    (q_check_book : PySem.W.nsIn K mainGlobals "check_book" = some (some (.ref a_check_book))) (l_check_book : K.lookup a_check_book = some ⟨oc_check_book, od_check_book, .func (PySem.W.fnOf "check_book" "check_book" (defArgs s_check_book) (defBody s_check_book) (defScope s_check_book) .none kV_check_book dc_check_book pm_check_book an_check_book cd_check_book ct_check_book), sl_check_book⟩) (c_check_book : PySem.W.codeIn K cd_check_book "check_book" = true) (k_check_book : PySem.W.keepIn K (.ref a_check_book) = true)
    {a_check_mark : Addr} {od_check_mark an_check_mark : Option Addr} {sl_check_mark : Array (Option Value)} {oc_check_mark kV_check_mark dc_check_mark pm_check_mark cd_check_mark ct_check_mark : Value}
    (q_check_mark : PySem.W.nsIn K mainGlobals "check_mark" = some (some (.ref a_check_mark))) (l_check_mark : K.lookup a_check_mark = some ⟨oc_check_mark, od_check_mark, .func (PySem.W.fnOf "check_mark" "check_mark" (defArgs s_check_mark) (defBody s_check_mark) (defScope s_check_mark) .none kV_check_mark dc_check_mark pm_check_mark an_check_mark cd_check_mark ct_check_mark), sl_check_mark⟩) (c_check_mark : PySem.W.codeIn K cd_check_mark "check_mark" = true) (k_check_mark : PySem.W.keepIn K (.ref a_check_mark) = true)
    {a_froms : Addr} {od_froms an_froms : Option Addr} {sl_froms : Array (Option Value)} {oc_froms kV_froms dc_froms pm_froms cd_froms ct_froms : Value}
    (q_froms : PySem.W.nsIn K mainGlobals "froms" = some (some (.ref a_froms))) (l_froms : K.lookup a_froms = some ⟨oc_froms, od_froms, .func (PySem.W.fnOf "froms" "froms" (defArgs s_froms) (defBody s_froms) (defScope s_froms) .none kV_froms dc_froms pm_froms an_froms cd_froms ct_froms), sl_froms⟩) (c_froms : PySem.W.codeIn K cd_froms "froms" = true) (k_froms : PySem.W.keepIn K (.ref a_froms) = true)
    {a_ways_of : Addr} {od_ways_of an_ways_of : Option Addr} {sl_ways_of : Array (Option Value)} {oc_ways_of kV_ways_of dc_ways_of pm_ways_of cd_ways_of ct_ways_of : Value}
    (q_ways_of : PySem.W.nsIn K mainGlobals "ways_of" = some (some (.ref a_ways_of))) (l_ways_of : K.lookup a_ways_of = some ⟨oc_ways_of, od_ways_of, .func (PySem.W.fnOf "ways_of" "ways_of" (defArgs s_ways_of) (defBody s_ways_of) (defScope s_ways_of) .none kV_ways_of dc_ways_of pm_ways_of an_ways_of cd_ways_of ct_ways_of), sl_ways_of⟩) (c_ways_of : PySem.W.codeIn K cd_ways_of "ways_of" = true) (k_ways_of : PySem.W.keepIn K (.ref a_ways_of) = true)
    {a_chosen : Addr} {od_chosen an_chosen : Option Addr} {sl_chosen : Array (Option Value)} {oc_chosen kV_chosen dc_chosen pm_chosen cd_chosen ct_chosen : Value}
    (q_chosen : PySem.W.nsIn K mainGlobals "chosen" = some (some (.ref a_chosen))) (l_chosen : K.lookup a_chosen = some ⟨oc_chosen, od_chosen, .func (PySem.W.fnOf "chosen" "chosen" (defArgs s_chosen) (defBody s_chosen) (defScope s_chosen) .none kV_chosen dc_chosen pm_chosen an_chosen cd_chosen ct_chosen), sl_chosen⟩) (c_chosen : PySem.W.codeIn K cd_chosen "chosen" = true) (k_chosen : PySem.W.keepIn K (.ref a_chosen) = true)
    {a_root : Addr} {od_root an_root : Option Addr} {sl_root : Array (Option Value)} {oc_root kV_root dc_root pm_root cd_root ct_root : Value}
    (q_root : PySem.W.nsIn K mainGlobals "root" = some (some (.ref a_root))) (l_root : K.lookup a_root = some ⟨oc_root, od_root, .func (PySem.W.fnOf "root" "root" (defArgs s_root) (defBody s_root) (defScope s_root) .none kV_root dc_root pm_root an_root cd_root ct_root), sl_root⟩) (c_root : PySem.W.codeIn K cd_root "root" = true) (k_root : PySem.W.keepIn K (.ref a_root) = true)
    {a_show_book : Addr} {od_show_book an_show_book : Option Addr} {sl_show_book : Array (Option Value)} {oc_show_book kV_show_book dc_show_book pm_show_book cd_show_book ct_show_book : Value}
    (q_show_book : PySem.W.nsIn K mainGlobals "show_book" = some (some (.ref a_show_book))) (l_show_book : K.lookup a_show_book = some ⟨oc_show_book, od_show_book, .func (PySem.W.fnOf "show_book" "show_book" (defArgs s_show_book) (defBody s_show_book) (defScope s_show_book) .none kV_show_book dc_show_book pm_show_book an_show_book cd_show_book ct_show_book), sl_show_book⟩) (c_show_book : PySem.W.codeIn K cd_show_book "show_book" = true) (k_show_book : PySem.W.keepIn K (.ref a_show_book) = true)
    {a__law_pool : Addr} {od__law_pool an__law_pool : Option Addr} {sl__law_pool : Array (Option Value)} {oc__law_pool kV__law_pool dc__law_pool pm__law_pool cd__law_pool ct__law_pool : Value}
    (q__law_pool : PySem.W.nsIn K mainGlobals "_law_pool" = some (some (.ref a__law_pool))) (l__law_pool : K.lookup a__law_pool = some ⟨oc__law_pool, od__law_pool, .func (PySem.W.fnOf "_law_pool" "_law_pool" (defArgs s__law_pool) (defBody s__law_pool) (defScope s__law_pool) .none kV__law_pool dc__law_pool pm__law_pool an__law_pool cd__law_pool ct__law_pool), sl__law_pool⟩) (c__law_pool : PySem.W.codeIn K cd__law_pool "_law_pool" = true) (k__law_pool : PySem.W.keepIn K (.ref a__law_pool) = true)
    {a__law_take : Addr} {od__law_take an__law_take : Option Addr} {sl__law_take : Array (Option Value)} {oc__law_take kV__law_take dc__law_take pm__law_take cd__law_take ct__law_take : Value}
    (q__law_take : PySem.W.nsIn K mainGlobals "_law_take" = some (some (.ref a__law_take))) (l__law_take : K.lookup a__law_take = some ⟨oc__law_take, od__law_take, .func (PySem.W.fnOf "_law_take" "_law_take" (defArgs s__law_take) (defBody s__law_take) (defScope s__law_take) .none kV__law_take dc__law_take pm__law_take an__law_take cd__law_take ct__law_take), sl__law_take⟩) (c__law_take : PySem.W.codeIn K cd__law_take "_law_take" = true) (k__law_take : PySem.W.keepIn K (.ref a__law_take) = true)
    {a__law_bounds : Addr} {od__law_bounds an__law_bounds : Option Addr} {sl__law_bounds : Array (Option Value)} {oc__law_bounds kV__law_bounds dc__law_bounds pm__law_bounds cd__law_bounds ct__law_bounds : Value}
    (q__law_bounds : PySem.W.nsIn K mainGlobals "_law_bounds" = some (some (.ref a__law_bounds))) (l__law_bounds : K.lookup a__law_bounds = some ⟨oc__law_bounds, od__law_bounds, .func (PySem.W.fnOf "_law_bounds" "_law_bounds" (defArgs s__law_bounds) (defBody s__law_bounds) (defScope s__law_bounds) .none kV__law_bounds dc__law_bounds pm__law_bounds an__law_bounds cd__law_bounds ct__law_bounds), sl__law_bounds⟩) (c__law_bounds : PySem.W.codeIn K cd__law_bounds "_law_bounds" = true) (k__law_bounds : PySem.W.keepIn K (.ref a__law_bounds) = true)
    {a__law_sizes : Addr} {od__law_sizes an__law_sizes : Option Addr} {sl__law_sizes : Array (Option Value)} {oc__law_sizes kV__law_sizes dc__law_sizes pm__law_sizes cd__law_sizes ct__law_sizes : Value}
    (q__law_sizes : PySem.W.nsIn K mainGlobals "_law_sizes" = some (some (.ref a__law_sizes))) (l__law_sizes : K.lookup a__law_sizes = some ⟨oc__law_sizes, od__law_sizes, .func (PySem.W.fnOf "_law_sizes" "_law_sizes" (defArgs s__law_sizes) (defBody s__law_sizes) (defScope s__law_sizes) .none kV__law_sizes dc__law_sizes pm__law_sizes an__law_sizes cd__law_sizes ct__law_sizes), sl__law_sizes⟩) (c__law_sizes : PySem.W.codeIn K cd__law_sizes "_law_sizes" = true) (k__law_sizes : PySem.W.keepIn K (.ref a__law_sizes) = true)
    {a__law_of_spans : Addr} {od__law_of_spans an__law_of_spans : Option Addr} {sl__law_of_spans : Array (Option Value)} {oc__law_of_spans kV__law_of_spans dc__law_of_spans pm__law_of_spans cd__law_of_spans ct__law_of_spans : Value}
    (q__law_of_spans : PySem.W.nsIn K mainGlobals "_law_of_spans" = some (some (.ref a__law_of_spans))) (l__law_of_spans : K.lookup a__law_of_spans = some ⟨oc__law_of_spans, od__law_of_spans, .func (PySem.W.fnOf "_law_of_spans" "_law_of_spans" (defArgs s__law_of_spans) (defBody s__law_of_spans) (defScope s__law_of_spans) .none kV__law_of_spans dc__law_of_spans pm__law_of_spans an__law_of_spans cd__law_of_spans ct__law_of_spans), sl__law_of_spans⟩) (c__law_of_spans : PySem.W.codeIn K cd__law_of_spans "_law_of_spans" = true) (k__law_of_spans : PySem.W.keepIn K (.ref a__law_of_spans) = true)
    {a__law_of_bounds : Addr} {od__law_of_bounds an__law_of_bounds : Option Addr} {sl__law_of_bounds : Array (Option Value)} {oc__law_of_bounds kV__law_of_bounds dc__law_of_bounds pm__law_of_bounds cd__law_of_bounds ct__law_of_bounds : Value}
    (q__law_of_bounds : PySem.W.nsIn K mainGlobals "_law_of_bounds" = some (some (.ref a__law_of_bounds))) (l__law_of_bounds : K.lookup a__law_of_bounds = some ⟨oc__law_of_bounds, od__law_of_bounds, .func (PySem.W.fnOf "_law_of_bounds" "_law_of_bounds" (defArgs s__law_of_bounds) (defBody s__law_of_bounds) (defScope s__law_of_bounds) .none kV__law_of_bounds dc__law_of_bounds pm__law_of_bounds an__law_of_bounds cd__law_of_bounds ct__law_of_bounds), sl__law_of_bounds⟩) (c__law_of_bounds : PySem.W.codeIn K cd__law_of_bounds "_law_of_bounds" = true) (k__law_of_bounds : PySem.W.keepIn K (.ref a__law_of_bounds) = true)
    {a__law_only : Addr} {od__law_only an__law_only : Option Addr} {sl__law_only : Array (Option Value)} {oc__law_only kV__law_only dc__law_only pm__law_only cd__law_only ct__law_only : Value}
    (q__law_only : PySem.W.nsIn K mainGlobals "_law_only" = some (some (.ref a__law_only))) (l__law_only : K.lookup a__law_only = some ⟨oc__law_only, od__law_only, .func (PySem.W.fnOf "_law_only" "_law_only" (defArgs s__law_only) (defBody s__law_only) (defScope s__law_only) .none kV__law_only dc__law_only pm__law_only an__law_only cd__law_only ct__law_only), sl__law_only⟩) (c__law_only : PySem.W.codeIn K cd__law_only "_law_only" = true) (k__law_only : PySem.W.keepIn K (.ref a__law_only) = true)
    {a__law_refused : Addr} {od__law_refused an__law_refused : Option Addr} {sl__law_refused : Array (Option Value)} {oc__law_refused kV__law_refused dc__law_refused pm__law_refused cd__law_refused ct__law_refused : Value}
    (q__law_refused : PySem.W.nsIn K mainGlobals "_law_refused" = some (some (.ref a__law_refused))) (l__law_refused : K.lookup a__law_refused = some ⟨oc__law_refused, od__law_refused, .func (PySem.W.fnOf "_law_refused" "_law_refused" (defArgs s__law_refused) (defBody s__law_refused) (defScope s__law_refused) .none kV__law_refused dc__law_refused pm__law_refused an__law_refused cd__law_refused ct__law_refused), sl__law_refused⟩) (c__law_refused : PySem.W.codeIn K cd__law_refused "_law_refused" = true) (k__law_refused : PySem.W.keepIn K (.ref a__law_refused) = true)
    {a__law_refused_all : Addr} {od__law_refused_all an__law_refused_all : Option Addr} {sl__law_refused_all : Array (Option Value)} {oc__law_refused_all kV__law_refused_all dc__law_refused_all pm__law_refused_all cd__law_refused_all ct__law_refused_all : Value}
    (q__law_refused_all : PySem.W.nsIn K mainGlobals "_law_refused_all" = some (some (.ref a__law_refused_all))) (l__law_refused_all : K.lookup a__law_refused_all = some ⟨oc__law_refused_all, od__law_refused_all, .func (PySem.W.fnOf "_law_refused_all" "_law_refused_all" (defArgs s__law_refused_all) (defBody s__law_refused_all) (defScope s__law_refused_all) .none kV__law_refused_all dc__law_refused_all pm__law_refused_all an__law_refused_all cd__law_refused_all ct__law_refused_all), sl__law_refused_all⟩) (c__law_refused_all : PySem.W.codeIn K cd__law_refused_all "_law_refused_all" = true) (k__law_refused_all : PySem.W.keepIn K (.ref a__law_refused_all) = true)
    {a__law_right : Addr} {od__law_right an__law_right : Option Addr} {sl__law_right : Array (Option Value)} {oc__law_right kV__law_right dc__law_right pm__law_right cd__law_right ct__law_right : Value}
    (q__law_right : PySem.W.nsIn K mainGlobals "_law_right" = some (some (.ref a__law_right))) (l__law_right : K.lookup a__law_right = some ⟨oc__law_right, od__law_right, .func (PySem.W.fnOf "_law_right" "_law_right" (defArgs s__law_right) (defBody s__law_right) (defScope s__law_right) .none kV__law_right dc__law_right pm__law_right an__law_right cd__law_right ct__law_right), sl__law_right⟩) (c__law_right : PySem.W.codeIn K cd__law_right "_law_right" = true) (k__law_right : PySem.W.keepIn K (.ref a__law_right) = true)
    {a_law : Addr} {od_law an_law : Option Addr} {sl_law : Array (Option Value)} {oc_law kV_law dc_law pm_law cd_law ct_law : Value}
    (q_law : PySem.W.nsIn K mainGlobals "law" = some (some (.ref a_law))) (l_law : K.lookup a_law = some ⟨oc_law, od_law, .func (PySem.W.fnOf "law" "law" (defArgs s_law) (defBody s_law) (defScope s_law) .none kV_law dc_law pm_law an_law cd_law ct_law), sl_law⟩) (c_law : PySem.W.codeIn K cd_law "law" = true) (k_law : PySem.W.keepIn K (.ref a_law) = true)
    (n_ValueError : PySem.W.nsIn K mainGlobals "ValueError" = some none)
    (n_abs : PySem.W.nsIn K mainGlobals "abs" = some none)
    (n_all : PySem.W.nsIn K mainGlobals "all" = some none)
    (n_bool : PySem.W.nsIn K mainGlobals "bool" = some none)
    (n_divmod : PySem.W.nsIn K mainGlobals "divmod" = some none)
    (n_enumerate : PySem.W.nsIn K mainGlobals "enumerate" = some none)
    (n_int : PySem.W.nsIn K mainGlobals "int" = some none)
    (n_isinstance : PySem.W.nsIn K mainGlobals "isinstance" = some none)
    (n_len : PySem.W.nsIn K mainGlobals "len" = some none)
    (n_max : PySem.W.nsIn K mainGlobals "max" = some none)
    (n_min : PySem.W.nsIn K mainGlobals "min" = some none)
    (n_range : PySem.W.nsIn K mainGlobals "range" = some none)
    (n_sum : PySem.W.nsIn K mainGlobals "sum" = some none)
    (n_tuple : PySem.W.nsIn K mainGlobals "tuple" = some none)
    {t_MOST_BOUNDS : Tok} (g_MOST_BOUNDS : PySem.W.nsIn K mainGlobals "MOST_BOUNDS" = some (some (.int 30 t_MOST_BOUNDS)))
    {t_MOST_END : Tok} (g_MOST_END : PySem.W.nsIn K mainGlobals "MOST_END" = some (some (.int 60 t_MOST_END)))
    {t_MOST_MARKS : Tok} (g_MOST_MARKS : PySem.W.nsIn K mainGlobals "MOST_MARKS" = some (some (.int 10 t_MOST_MARKS)))
    {t_MOST_SPANS : Tok} (g_MOST_SPANS : PySem.W.nsIn K mainGlobals "MOST_SPANS" = some (some (.int 4 t_MOST_SPANS)))
    {t_MOST_W : Tok} (g_MOST_W : PySem.W.nsIn K mainGlobals "MOST_W" = some (some (.int 60 t_MOST_W)))
    {C_HourError : Addr} (eg_HourError : PySem.W.nsIn K mainGlobals "HourError" = some (some (.ref C_HourError))) (ex_HourError : PySem.W.excIn K C_HourError [.type "ValueError", .type "Exception", .type "BaseException", .type "object"] "ValueError.__new__" = true) (ek_HourError : PySem.W.keepIn K (.ref C_HourError) = true) (eb_HourError : PySem.W.subIn K (.ref C_HourError) (.type "BaseException") = some true) (et_HourError : PySem.W.typeIn K (.ref C_HourError) = some (.type "type")) (ei_HourError : PySem.W.isClsIn K C_HourError = true)
    {C_NoBook : Addr} (eg_NoBook : PySem.W.nsIn K mainGlobals "NoBook" = some (some (.ref C_NoBook))) (ex_NoBook : PySem.W.excIn K C_NoBook [.type "ValueError", .type "Exception", .type "BaseException", .type "object"] "ValueError.__new__" = true) (ek_NoBook : PySem.W.keepIn K (.ref C_NoBook) = true) (eb_NoBook : PySem.W.subIn K (.ref C_NoBook) (.type "BaseException") = some true) (et_NoBook : PySem.W.typeIn K (.ref C_NoBook) = some (.type "type")) (ei_NoBook : PySem.W.isClsIn K C_NoBook = true)
    {C_NoMark : Addr} (eg_NoMark : PySem.W.nsIn K mainGlobals "NoMark" = some (some (.ref C_NoMark))) (ex_NoMark : PySem.W.excIn K C_NoMark [.type "ValueError", .type "Exception", .type "BaseException", .type "object"] "ValueError.__new__" = true) (ek_NoMark : PySem.W.keepIn K (.ref C_NoMark) = true) (eb_NoMark : PySem.W.subIn K (.ref C_NoMark) (.type "BaseException") = some true) (et_NoMark : PySem.W.typeIn K (.ref C_NoMark) = some (.type "type")) (ei_NoMark : PySem.W.isClsIn K C_NoMark = true)
    (sx_NoBook_HourError : PySem.W.subIn K (.ref C_NoBook) (.ref C_HourError) = some true)
    {C_NoBound : Addr} (eg_NoBound : PySem.W.nsIn K mainGlobals "NoBound" = some (some (.ref C_NoBound)))
    {C_NoDeeds : Addr} (eg_NoDeeds : PySem.W.nsIn K mainGlobals "NoDeeds" = some (some (.ref C_NoDeeds)))
    {C_NoFoe : Addr} (eg_NoFoe : PySem.W.nsIn K mainGlobals "NoFoe" = some (some (.ref C_NoFoe)))
    {C_NoHour : Addr} (eg_NoHour : PySem.W.nsIn K mainGlobals "NoHour" = some (some (.ref C_NoHour)))
    {C_NoHours : Addr} (eg_NoHours : PySem.W.nsIn K mainGlobals "NoHours" = some (some (.ref C_NoHours)))
    {C_NoRow : Addr} (eg_NoRow : PySem.W.nsIn K mainGlobals "NoRow" = some (some (.ref C_NoRow)))
    {C_NoRows : Addr} (eg_NoRows : PySem.W.nsIn K mainGlobals "NoRows" = some (some (.ref C_NoRows)))
    {C_NoSpan : Addr} (eg_NoSpan : PySem.W.nsIn K mainGlobals "NoSpan" = some (some (.ref C_NoSpan)))
    {C_NoStory : Addr} (eg_NoStory : PySem.W.nsIn K mainGlobals "NoStory" = some (some (.ref C_NoStory)))
    {C_NoTables : Addr} (eg_NoTables : PySem.W.nsIn K mainGlobals "NoTables" = some (some (.ref C_NoTables)))
    {C_NoText : Addr} (eg_NoText : PySem.W.nsIn K mainGlobals "NoText" = some (some (.ref C_NoText)))
    {C_NoUndo : Addr} (eg_NoUndo : PySem.W.nsIn K mainGlobals "NoUndo" = some (some (.ref C_NoUndo)))
    {C_NoWord : Addr} (eg_NoWord : PySem.W.nsIn K mainGlobals "NoWord" = some (some (.ref C_NoWord)))
    {C_TooMany : Addr} (eg_TooMany : PySem.W.nsIn K mainGlobals "TooMany" = some (some (.ref C_TooMany)))
    (er_hn : PySem.W.specialIn K (.builtin "object.__class__") "__get__" = some (some (.builtin "getset_descriptor.__get__"))) (er_ht : PySem.W.takesIn K (.builtin "object.__class__") = some true)
    (hg_NoBook : PySem.W.findIn K (.ref C_NoBook) "__getattribute__" = some (some (.builtin "BaseException.__getattribute__")))
    (hk_NoBook : PySem.W.findIn K (.ref C_NoBook) "__getattr__" = some none)
    (hd_NoBook : PySem.W.hasDictIn K C_NoBook = true)
    (ha_NoBook : PySem.W.findIn K (.ref C_NoBook) "__class__" = some (some (.builtin "object.__class__")))
    (hm_NoBook : PySem.W.mroIn K C_NoBook (.type "object") = some true)
    (kt_NoBook_NoBook : PySem.W.kitOne K (.ref C_NoBook) (.ref C_NoBook) = some true)
    (kt_NoBook_NoBound : PySem.W.kitOne K (.ref C_NoBook) (.ref C_NoBound) = some false)
    (kt_NoBook_NoDeeds : PySem.W.kitOne K (.ref C_NoBook) (.ref C_NoDeeds) = some false)
    (kt_NoBook_NoFoe : PySem.W.kitOne K (.ref C_NoBook) (.ref C_NoFoe) = some false)
    (kt_NoBook_NoHour : PySem.W.kitOne K (.ref C_NoBook) (.ref C_NoHour) = some false)
    (kt_NoBook_NoHours : PySem.W.kitOne K (.ref C_NoBook) (.ref C_NoHours) = some false)
    (kt_NoBook_NoMark : PySem.W.kitOne K (.ref C_NoBook) (.ref C_NoMark) = some false)
    (kt_NoBook_NoRow : PySem.W.kitOne K (.ref C_NoBook) (.ref C_NoRow) = some false)
    (kt_NoBook_NoRows : PySem.W.kitOne K (.ref C_NoBook) (.ref C_NoRows) = some false)
    (kt_NoBook_NoSpan : PySem.W.kitOne K (.ref C_NoBook) (.ref C_NoSpan) = some false)
    (kt_NoBook_NoStory : PySem.W.kitOne K (.ref C_NoBook) (.ref C_NoStory) = some false)
    (kt_NoBook_NoTables : PySem.W.kitOne K (.ref C_NoBook) (.ref C_NoTables) = some false)
    (kt_NoBook_NoText : PySem.W.kitOne K (.ref C_NoBook) (.ref C_NoText) = some false)
    (kt_NoBook_NoUndo : PySem.W.kitOne K (.ref C_NoBook) (.ref C_NoUndo) = some false)
    (kt_NoBook_NoWord : PySem.W.kitOne K (.ref C_NoBook) (.ref C_NoWord) = some false)
    (kt_NoBook_TooMany : PySem.W.kitOne K (.ref C_NoBook) (.ref C_TooMany) = some false)
    (kt_NoBook_ValueError : PySem.W.kitOne K (.ref C_NoBook) (.type "ValueError") = some true) :
    ∃ fd : FuncData, (∀ (s : Shared) (u : Value), BindsTo s fd ⟨[u], []⟩ [("_law_script", u)]) ∧ ∀ base : Heap, K.In base → base.Ns mainGlobals mg → FnOk l.prog w K mg base (L2.CX l.prog w) 10 fa fd ["_law_script"] (spLaw K) := by
  have e := hfa.symm.trans (PySem.W.mg_of X G q_law)
  have e2 : a_law = fa := by cases e; rfl
  subst e2
  let T : TX K mg := { a_is_whole := a_is_whole, fd_is_whole := _, m_is_whole := PySem.W.mg_of X G q_is_whole, F_is_whole := fun_mk (st := s_is_whole) l_is_whole c_is_whole k_is_whole, B_is_whole := (fun_mk (st := s_is_whole) l_is_whole c_is_whole k_is_whole).binds (ps := ["x"]) (fun _ _ _ _ _ _ us hl => match us, hl with | [_], _ => rfl), a_is_within := a_is_within, fd_is_within := _, m_is_within := PySem.W.mg_of X G q_is_within, F_is_within := fun_mk (st := s_is_within) l_is_within c_is_within k_is_within, B_is_within := (fun_mk (st := s_is_within) l_is_within c_is_within k_is_within).binds (ps := ["x", "least", "most"]) (fun _ _ _ _ _ _ us hl => match us, hl with | [_, _, _], _ => rfl), a_is_span := a_is_span, fd_is_span := _, m_is_span := PySem.W.mg_of X G q_is_span, F_is_span := fun_mk (st := s_is_span) l_is_span c_is_span k_is_span, B_is_span := (fun_mk (st := s_is_span) l_is_span c_is_span k_is_span).binds (ps := ["thing", "end", "many"]) (fun _ _ _ _ _ _ us hl => match us, hl with | [_, _, _], _ => rfl), a_is_bound := a_is_bound, fd_is_bound := _, m_is_bound := PySem.W.mg_of X G q_is_bound, F_is_bound := fun_mk (st := s_is_bound) l_is_bound c_is_bound k_is_bound, B_is_bound := (fun_mk (st := s_is_bound) l_is_bound c_is_bound k_is_bound).binds (ps := ["thing", "many"]) (fun _ _ _ _ _ _ us hl => match us, hl with | [_, _], _ => rfl), a_spans_by_goal := a_spans_by_goal, fd_spans_by_goal := _, m_spans_by_goal := PySem.W.mg_of X G q_spans_by_goal, F_spans_by_goal := fun_mk (st := s_spans_by_goal) l_spans_by_goal c_spans_by_goal k_spans_by_goal, B_spans_by_goal := (fun_mk (st := s_spans_by_goal) l_spans_by_goal c_spans_by_goal k_spans_by_goal).binds (ps := ["spans"]) (fun _ _ _ _ _ _ us hl => match us, hl with | [_], _ => rfl), a_way_from := a_way_from, fd_way_from := _, m_way_from := PySem.W.mg_of X G q_way_from, F_way_from := fun_mk (st := s_way_from) l_way_from c_way_from k_way_from, B_way_from := (fun_mk (st := s_way_from) l_way_from c_way_from k_way_from).binds (ps := ["spans", "known", "mark"]) (fun _ _ _ _ _ _ us hl => match us, hl with | [_, _, _], _ => rfl), a_are_spans := a_are_spans, fd_are_spans := _, m_are_spans := PySem.W.mg_of X G q_are_spans, F_are_spans := fun_mk (st := s_are_spans) l_are_spans c_are_spans k_are_spans, B_are_spans := (fun_mk (st := s_are_spans) l_are_spans c_are_spans k_are_spans).binds (ps := ["thing", "end", "many"]) (fun _ _ _ _ _ _ us hl => match us, hl with | [_, _, _], _ => rfl), a_is_book := a_is_book, fd_is_book := _, m_is_book := PySem.W.mg_of X G q_is_book, F_is_book := fun_mk (st := s_is_book) l_is_book c_is_book k_is_book, B_is_book := (fun_mk (st := s_is_book) l_is_book c_is_book k_is_book).binds (ps := ["thing"]) (fun _ _ _ _ _ _ us hl => match us, hl with | [_], _ => rfl), a_check_book := a_check_book, fd_check_book := _, m_check_book := PySem.W.mg_of X G q_check_book, F_check_book := fun_mk (st := s_check_book) l_check_book c_check_book k_check_book, B_check_book := (fun_mk (st := s_check_book) l_check_book c_check_book k_check_book).binds (ps := ["book"]) (fun _ _ _ _ _ _ us hl => match us, hl with | [_], _ => rfl), a_check_mark := a_check_mark, fd_check_mark := _, m_check_mark := PySem.W.mg_of X G q_check_mark, F_check_mark := fun_mk (st := s_check_mark) l_check_mark c_check_mark k_check_mark, B_check_mark := (fun_mk (st := s_check_mark) l_check_mark c_check_mark k_check_mark).binds (ps := ["book", "mark"]) (fun _ _ _ _ _ _ us hl => match us, hl with | [_, _], _ => rfl), a_froms := a_froms, fd_froms := _, m_froms := PySem.W.mg_of X G q_froms, F_froms := fun_mk (st := s_froms) l_froms c_froms k_froms, B_froms := (fun_mk (st := s_froms) l_froms c_froms k_froms).binds (ps := ["book"]) (fun _ _ _ _ _ _ us hl => match us, hl with | [_], _ => rfl), a_ways_of := a_ways_of, fd_ways_of := _, m_ways_of := PySem.W.mg_of X G q_ways_of, F_ways_of := fun_mk (st := s_ways_of) l_ways_of c_ways_of k_ways_of, B_ways_of := (fun_mk (st := s_ways_of) l_ways_of c_ways_of k_ways_of).binds (ps := ["book"]) (fun _ _ _ _ _ _ us hl => match us, hl with | [_], _ => rfl), a_chosen := a_chosen, fd_chosen := _, m_chosen := PySem.W.mg_of X G q_chosen, F_chosen := fun_mk (st := s_chosen) l_chosen c_chosen k_chosen, B_chosen := (fun_mk (st := s_chosen) l_chosen c_chosen k_chosen).binds (ps := ["book"]) (fun _ _ _ _ _ _ us hl => match us, hl with | [_], _ => rfl), a_root := a_root, fd_root := _, m_root := PySem.W.mg_of X G q_root, F_root := fun_mk (st := s_root) l_root c_root k_root, B_root := (fun_mk (st := s_root) l_root c_root k_root).binds (ps := ["book", "mark"]) (fun _ _ _ _ _ _ us hl => match us, hl with | [_, _], _ => rfl), a_show_book := a_show_book, fd_show_book := _, m_show_book := PySem.W.mg_of X G q_show_book, F_show_book := fun_mk (st := s_show_book) l_show_book c_show_book k_show_book, B_show_book := (fun_mk (st := s_show_book) l_show_book c_show_book k_show_book).binds (ps := ["book"]) (fun _ _ _ _ _ _ us hl => match us, hl with | [_], _ => rfl), a__law_pool := a__law_pool, fd__law_pool := _, m__law_pool := PySem.W.mg_of X G q__law_pool, F__law_pool := fun_mk (st := s__law_pool) l__law_pool c__law_pool k__law_pool, B__law_pool := (fun_mk (st := s__law_pool) l__law_pool c__law_pool k__law_pool).binds (ps := ["_law_script", "_law_k"]) (fun _ _ _ _ _ _ us hl => match us, hl with | [_, _], _ => rfl), a__law_take := a__law_take, fd__law_take := _, m__law_take := PySem.W.mg_of X G q__law_take, F__law_take := fun_mk (st := s__law_take) l__law_take c__law_take k__law_take, B__law_take := (fun_mk (st := s__law_take) l__law_take c__law_take k__law_take).binds (ps := ["_law_pool_here", "_law_many"]) (fun _ _ _ _ _ _ us hl => match us, hl with | [_, _], _ => rfl), a__law_bounds := a__law_bounds, fd__law_bounds := _, m__law_bounds := PySem.W.mg_of X G q__law_bounds, F__law_bounds := fun_mk (st := s__law_bounds) l__law_bounds c__law_bounds k__law_bounds, B__law_bounds := (fun_mk (st := s__law_bounds) l__law_bounds c__law_bounds k__law_bounds).binds (ps := ["_law_pool_here", "_law_many"]) (fun _ _ _ _ _ _ us hl => match us, hl with | [_, _], _ => rfl), a__law_sizes := a__law_sizes, fd__law_sizes := _, m__law_sizes := PySem.W.mg_of X G q__law_sizes, F__law_sizes := fun_mk (st := s__law_sizes) l__law_sizes c__law_sizes k__law_sizes, B__law_sizes := (fun_mk (st := s__law_sizes) l__law_sizes c__law_sizes k__law_sizes).binds (ps := ["_law_pool_here", "_law_book"]) (fun _ _ _ _ _ _ us hl => match us, hl with | [_, _], _ => rfl), a__law_of_spans := a__law_of_spans, fd__law_of_spans := _, m__law_of_spans := PySem.W.mg_of X G q__law_of_spans, F__law_of_spans := fun_mk (st := s__law_of_spans) l__law_of_spans c__law_of_spans k__law_of_spans, B__law_of_spans := (fun_mk (st := s__law_of_spans) l__law_of_spans c__law_of_spans k__law_of_spans).binds (ps := ["_law_pool_here", "_law_book"]) (fun _ _ _ _ _ _ us hl => match us, hl with | [_, _], _ => rfl), a__law_of_bounds := a__law_of_bounds, fd__law_of_bounds := _, m__law_of_bounds := PySem.W.mg_of X G q__law_of_bounds, F__law_of_bounds := fun_mk (st := s__law_of_bounds) l__law_of_bounds c__law_of_bounds k__law_of_bounds, B__law_of_bounds := (fun_mk (st := s__law_of_bounds) l__law_of_bounds c__law_of_bounds k__law_of_bounds).binds (ps := ["_law_pool_here", "_law_book"]) (fun _ _ _ _ _ _ us hl => match us, hl with | [_, _], _ => rfl), a__law_only := a__law_only, fd__law_only := _, m__law_only := PySem.W.mg_of X G q__law_only, F__law_only := fun_mk (st := s__law_only) l__law_only c__law_only k__law_only, B__law_only := (fun_mk (st := s__law_only) l__law_only c__law_only k__law_only).binds (ps := ["_law_caught"]) (fun _ _ _ _ _ _ us hl => match us, hl with | [_], _ => rfl), a__law_refused := a__law_refused, fd__law_refused := _, m__law_refused := PySem.W.mg_of X G q__law_refused, F__law_refused := fun_mk (st := s__law_refused) l__law_refused c__law_refused k__law_refused, B__law_refused := (fun_mk (st := s__law_refused) l__law_refused c__law_refused k__law_refused).binds (ps := ["_law_thing", "_law_mark"]) (fun _ _ _ _ _ _ us hl => match us, hl with | [_, _], _ => rfl), a__law_refused_all := a__law_refused_all, fd__law_refused_all := _, m__law_refused_all := PySem.W.mg_of X G q__law_refused_all, F__law_refused_all := fun_mk (st := s__law_refused_all) l__law_refused_all c__law_refused_all k__law_refused_all, B__law_refused_all := (fun_mk (st := s__law_refused_all) l__law_refused_all c__law_refused_all k__law_refused_all).binds (ps := ["_law_thing"]) (fun _ _ _ _ _ _ us hl => match us, hl with | [_], _ => rfl), a__law_right := a__law_right, fd__law_right := _, m__law_right := PySem.W.mg_of X G q__law_right, F__law_right := fun_mk (st := s__law_right) l__law_right c__law_right k__law_right, B__law_right := (fun_mk (st := s__law_right) l__law_right c__law_right k__law_right).binds (ps := ["_law_thing", "_law_due"]) (fun _ _ _ _ _ _ us hl => match us, hl with | [_, _], _ => rfl), a_law := a_law, fd_law := _, m_law := PySem.W.mg_of X G q_law, F_law := fun_mk (st := s_law) l_law c_law k_law, B_law := (fun_mk (st := s_law) l_law c_law k_law).binds (ps := ["_law_script"]) (fun _ _ _ _ _ _ us hl => match us, hl with | [_], _ => rfl), n_ValueError := PySem.W.mg_none_of X G n_ValueError, n_abs := PySem.W.mg_none_of X G n_abs, n_all := PySem.W.mg_none_of X G n_all, n_bool := PySem.W.mg_none_of X G n_bool, n_divmod := PySem.W.mg_none_of X G n_divmod, n_enumerate := PySem.W.mg_none_of X G n_enumerate, n_int := PySem.W.mg_none_of X G n_int, n_isinstance := PySem.W.mg_none_of X G n_isinstance, n_len := PySem.W.mg_none_of X G n_len, n_max := PySem.W.mg_none_of X G n_max, n_min := PySem.W.mg_none_of X G n_min, n_range := PySem.W.mg_none_of X G n_range, n_sum := PySem.W.mg_none_of X G n_sum, n_tuple := PySem.W.mg_none_of X G n_tuple, t_MOST_BOUNDS := t_MOST_BOUNDS, g_MOST_BOUNDS := PySem.W.mg_of X G g_MOST_BOUNDS, t_MOST_END := t_MOST_END, g_MOST_END := PySem.W.mg_of X G g_MOST_END, t_MOST_MARKS := t_MOST_MARKS, g_MOST_MARKS := PySem.W.mg_of X G g_MOST_MARKS, t_MOST_SPANS := t_MOST_SPANS, g_MOST_SPANS := PySem.W.mg_of X G g_MOST_SPANS, t_MOST_W := t_MOST_W, g_MOST_W := PySem.W.mg_of X G g_MOST_W, C_HourError := C_HourError, e_HourError := ⟨PySem.W.mg_of X G eg_HourError, ex_HourError, ek_HourError, eb_HourError, et_HourError, ei_HourError⟩, C_NoBook := C_NoBook, e_NoBook := ⟨PySem.W.mg_of X G eg_NoBook, ex_NoBook, ek_NoBook, eb_NoBook, et_NoBook, ei_NoBook⟩, C_NoMark := C_NoMark, e_NoMark := ⟨PySem.W.mg_of X G eg_NoMark, ex_NoMark, ek_NoMark, eb_NoMark, et_NoMark, ei_NoMark⟩, C_NoBound := C_NoBound, C_NoDeeds := C_NoDeeds, C_NoFoe := C_NoFoe, C_NoHour := C_NoHour, C_NoHours := C_NoHours, C_NoRow := C_NoRow, C_NoRows := C_NoRows, C_NoSpan := C_NoSpan, C_NoStory := C_NoStory, C_NoTables := C_NoTables, C_NoText := C_NoText, C_NoUndo := C_NoUndo, C_NoWord := C_NoWord, C_TooMany := C_TooMany, d_NoBook := PySem.W.mg_of X G eg_NoBook, d_NoBound := PySem.W.mg_of X G eg_NoBound, d_NoDeeds := PySem.W.mg_of X G eg_NoDeeds, d_NoFoe := PySem.W.mg_of X G eg_NoFoe, d_NoHour := PySem.W.mg_of X G eg_NoHour, d_NoHours := PySem.W.mg_of X G eg_NoHours, d_NoMark := PySem.W.mg_of X G eg_NoMark, d_NoRow := PySem.W.mg_of X G eg_NoRow, d_NoRows := PySem.W.mg_of X G eg_NoRows, d_NoSpan := PySem.W.mg_of X G eg_NoSpan, d_NoStory := PySem.W.mg_of X G eg_NoStory, d_NoTables := PySem.W.mg_of X G eg_NoTables, d_NoText := PySem.W.mg_of X G eg_NoText, d_NoUndo := PySem.W.mg_of X G eg_NoUndo, d_NoWord := PySem.W.mg_of X G eg_NoWord, d_TooMany := PySem.W.mg_of X G eg_TooMany, r_NoBook := ⟨eg_NoBook, ⟨hg_NoBook, hk_NoBook, eb_NoBook, hd_NoBook, ha_NoBook, er_hn, er_ht, hm_NoBook⟩⟩, k_NoBook_NoBook := kt_NoBook_NoBook, k_NoBook_NoBound := kt_NoBook_NoBound, k_NoBook_NoDeeds := kt_NoBook_NoDeeds, k_NoBook_NoFoe := kt_NoBook_NoFoe, k_NoBook_NoHour := kt_NoBook_NoHour, k_NoBook_NoHours := kt_NoBook_NoHours, k_NoBook_NoMark := kt_NoBook_NoMark, k_NoBook_NoRow := kt_NoBook_NoRow, k_NoBook_NoRows := kt_NoBook_NoRows, k_NoBook_NoSpan := kt_NoBook_NoSpan, k_NoBook_NoStory := kt_NoBook_NoStory, k_NoBook_NoTables := kt_NoBook_NoTables, k_NoBook_NoText := kt_NoBook_NoText, k_NoBook_NoUndo := kt_NoBook_NoUndo, k_NoBook_NoWord := kt_NoBook_NoWord, k_NoBook_TooMany := kt_NoBook_TooMany, k_NoBook_ValueError := kt_NoBook_ValueError, x_NoBook_HourError := exm_sub eb_HourError ei_HourError et_HourError sx_NoBook_HourError }
  exact ⟨_, fun s u => .of_eq rfl, fun base _ _ => law_fn hlaw (ok_law T)⟩
end Law

namespace Law
open PySem L2 DL
@[irreducible] def T_is_whole (p_x : D) : Q Bool :=
  .ok ((isiD "int" (eD p_x)) && (!(isiD "bool" (eD p_x))))
@[irreducible] def T_spans_by_goal (p_spans : (List (Int × Int × Int × Int))) : Q (List (Int × Int)) :=
  (foldQ (enumT 0 p_spans) (([] : (List (Int × Int))) : (List (Int × Int))) (fun (x_1 : (Int × (Int × Int × Int × Int))) (s_2 : (List (Int × Int))) => (Q.of (roomT (List.length s_2))).bind fun _ => .ok (putT s_2 x_1.2.2.1 x_1.1))).bind fun (s_3 : (List (Int × Int))) => .ok s_3
@[irreducible] def T_spans_by_goal_D (p_spans : D) : Q (List (Int × Int)) :=
  (Q.of (itT p_spans)).bind fun (xs_1 : List D) => (foldQ (enumT 0 xs_1) (([] : (List (Int × Int))) : (List (Int × Int))) (fun (x_2 : (Int × D)) (s_3 : (List (Int × Int))) => (Q.of (ixD (eD x_2.2) (eI 1))).bind fun (v_4 : D) => (Q.of (keyI v_4)).bind fun (k_5 : Int) => (Q.of (roomT (List.length s_3))).bind fun _ => .ok (putT s_3 k_5 x_2.1))).bind fun (s_6 : (List (Int × Int))) => .ok s_6
@[irreducible] def T_way_from (p_spans : (List (Int × Int × Int × Int))) (p_known : (List (Int × Int))) (p_mark : Int) : Q (List Int) :=
  (whileS (fun (s_1 : (Int × (List Int))) => .ok ((Option.isSome (getT p_known s_1.1)) && (decide (((List.length s_1.2 : Nat) : Int) ≤ ((List.length p_spans : Nat) : Int))))) (fun (s_1 : (Int × (List Int))) => (Q.of (getT p_known s_1.1)).bind fun (v_2 : Int) => (Q.of (roomT (List.length s_1.2))).bind fun _ => (Q.of (getT p_known s_1.1)).bind fun (v_3 : Int) => (Q.of (atI p_spans v_3)).bind fun (v_4 : (Int × Int × Int × Int)) => .ok (v_4.1, (s_1.2 ++ [v_2]))) fuelW ((p_mark, ([] : (List Int))) : (Int × (List Int)))).bind fun (s_5 : (Int × (List Int))) => .ok s_5.2
@[irreducible] def T_way_from_D (p_spans : D) (p_known : (List (Int × Int))) (p_mark : D) : Q (List Int) :=
  (whileS (fun (s_1 : (D × (List Int))) => (Q.of (inX p_known s_1.1)).bind fun (v_2 : Bool) => (if v_2 = true then (Q.of (lenT (eD p_spans))).bind fun (v_3 : Int) => .ok (decide (((List.length s_1.2 : Nat) : Int) ≤ v_3)) else .ok false)) (fun (s_1 : (D × (List Int))) => (Q.of (getX p_known s_1.1)).bind fun (v_4 : Int) => (Q.of (roomT (List.length s_1.2))).bind fun _ => (Q.of (getX p_known s_1.1)).bind fun (v_5 : Int) => (Q.of (ixD (eD p_spans) (eI v_5))).bind fun (v_6 : D) => (Q.of (ixD (eD v_6) (eI 0))).bind fun (v_7 : D) => .ok (v_7, (s_1.2 ++ [v_4]))) fuelW ((p_mark, ([] : (List Int))) : (D × (List Int)))).bind fun (s_8 : (D × (List Int))) => .ok s_8.2
@[irreducible] def T_law_pool (p_script : List Int) (p_k : Int) : Q (List Int) :=
  (Q.ok ((List.sum (cutD p_script (some p_k) (some (p_k + 1)))) : Int)).bind fun cell_1 => (if ((decide (cell_1 < 0)) || (decide (((10 : Int) ^ 18) ≤ cell_1))) = true then (Q.of (modT ((Int.natAbs cell_1 : Nat) : Int) P384)).bind fun (v_2 : Int) => .ok [v_2] else (Q.of (mulT (977 * p_k) p_k)).bind fun (v_3 : Int) => (Q.of (rgT 0 27)).bind fun (xs_4 : List Int) => (foldQ xs_4 (((((cell_1 * 48271) + v_3) + 13), 0) : (Int × Int)) (fun (x_5 : Int) (s_6 : (Int × Int)) => (Q.ok ((((((s_6.1 % 999999999989) * 69621) + (40503 * x_5)) + 271) % 999999999989) : Int)).bind fun more_7 => (Q.of (mulT s_6.2 ((10 : Int) ^ 11))).bind fun (v_8 : Int) => (Q.of (mulT more_7 ((more_7 % 65537) + 3))).bind fun (v_9 : Int) => .ok (more_7, (v_8 + (v_9 % 99999999977))))).bind fun (s_10 : (Int × Int)) => .ok [s_10.2])
@[irreducible] def T_law_take (p_pool_here : (List Int)) (p_many : Int) : Q (Int × (List Int)) :=
  (Q.of (atI p_pool_here 0)).bind fun (v_1 : Int) => (Q.of (divmodT v_1 p_many)).bind fun (v_2 : (Int × Int)) => (Q.of (setT p_pool_here 0 v_2.1)).bind fun (pool_here_3 : (List Int)) => .ok (v_2.2, pool_here_3)
@[irreducible] def T_law_only (p_caught : (Option XV)) : Q Bool :=
  (Q.of (isX (mTab [("NoBook", false)]) p_caught)).bind fun (b_1 : Bool) => (if b_1 = true then .ok false else (Q.of (isX (mTab [("NoBook", false)]) p_caught)).bind fun (b_2 : Bool) => (if b_2 = true then .ok false else Q.bind (α := Bool) ((Q.of (isX (mTab [("NoBook", true)]) p_caught)).bind fun (b_3 : Bool) => (if b_3 = true then (Q.of (isX (mTab [("NoBook", true)]) p_caught)).bind fun (b_4 : Bool) => .ok b_4 else .ok false)) fun s_5 => .ok s_5))
@[irreducible] def T_is_within (p_x : D) (p_least : D) (p_most : D) : Q Bool :=
  Q.bind (α := Bool) ((T_is_whole p_x).bind fun (r_1 : Bool) => (if r_1 = true then (Q.of (cmpT (fun i j => decide (i ≤ j)) (eD p_least) (eD p_x))).bind fun (p_3 : Bool) => (if p_3 = true then (Q.of (cmpT (fun i j => decide (i ≤ j)) (eD p_x) (eD p_most))).bind fun (v_2 : Bool) => .ok v_2 else .ok false) else .ok false)) fun s_4 => .ok s_4
@[irreducible] def T_froms (p_book : (Int × Int × (List (Int × Int × Int × Int)) × (List (Int × Int × Int)))) : Q (List (Int × Int)) :=
  (T_spans_by_goal p_book.2.2.1).bind fun (r_1 : (List (Int × Int))) => .ok r_1
@[irreducible] def T_law_bounds (p_pool_here : (List Int)) (p_many : Int) : Q ((List (Int × Int × Int)) × (List Int)) :=
  (T_law_take p_pool_here 30).noX.bind fun (r_1 : (Int × (List Int))) => (Q.of (rgT 0 (1 + r_1.1))).bind fun (xs_2 : List Int) => (foldQ xs_2 ((r_1.2, ([] : (List (Int × Int × Int)))) : ((List Int) × (List (Int × Int × Int)))) (fun (x_3 : Int) (s_4 : ((List Int) × (List (Int × Int × Int)))) => (T_law_take s_4.1 p_many).noX.bind fun (r_5 : (Int × (List Int))) => (T_law_take r_5.2 (p_many - 1)).noX.bind fun (r_6 : (Int × (List Int))) => (Q.of (modT ((r_5.1 + 1) + r_6.1) p_many)).bind fun (v_7 : Int) => (T_law_take r_6.2 121).noX.bind fun (r_8 : (Int × (List Int))) => (Q.of (roomT (List.length s_4.2))).bind fun _ => .ok (r_8.2, (s_4.2 ++ [(r_5.1, v_7, (r_8.1 - 60))])))).bind fun (s_9 : ((List Int) × (List (Int × Int × Int)))) => .ok (s_9.2, s_9.1)
@[irreducible] def T_law_sizes (p_pool_here : (List Int)) (p_book : (Int × Int × (Int × Int × Int × Int) × (List (Int × Int × Int)))) : Q ((List D) × (List Int)) :=
  (Q.of (rgT 0 5)).bind fun (xs_1 : List Int) => (compQ (γ := (Int × Int × Int × Int)) xs_1 (p_pool_here : (List Int)) (fun (x_2 : Int) (s_3 : (List Int)) => (T_law_take s_3 p_book.1).noX.bind fun (r_4 : (Int × (List Int))) => .ok (some (0, (x_2 + 1), (1 + r_4.1), p_book.1), r_4.2))).bind fun c_5 => (Q.ok ([((eT2 (eT4 eI eI (eV (eT4 eI eI eI eI)) (eV (eT3 eI eI eI))) eB) ((p_book.1, 10, (cutD c_5.1 none (some 4)), p_book.2.2.2), true)), ((eT2 (eT4 eI eI (eV (eT4 eI eI eI eI)) (eV (eT3 eI eI eI))) eB) ((p_book.1, 10, c_5.1, p_book.2.2.2), false)), ((eT2 (eT4 eI eI (eT1 (eT4 eI eI eI eI)) (eV (eT3 eI eI eI))) eB) ((p_book.1, 10, p_book.2.2.1, p_book.2.2.2), true))] : (List D))).bind fun some_6 => (Q.of (catT some_6 [((eT2 (eT4 eI eI (eT1 (eT4 eI eI eI eI)) (eV (eT3 eI eI eI))) eB) ((p_book.1, 11, p_book.2.2.1, p_book.2.2.2), false)), ((eT2 (eT4 eI eI eT0 eT0) eB) ((p_book.1, 0, (), ()), false)), ((eT2 (eT4 eI eI eT0 eT0) eB) ((p_book.1, (-1), (), ()), false))])).bind fun (v_7 : (List D)) => (Q.of (catT v_7 [((eT2 (eT4 eI eI eT0 eT0) eB) ((p_book.1, 1, (), ()), true)), ((eT2 (eT4 eI eI (eT1 (eT4 eI eI eI eI)) (eV (eT3 eI eI eI))) eB) ((60, p_book.2.1, p_book.2.2.1, p_book.2.2.2), true)), ((eT2 (eT4 eI eI (eT1 (eT4 eI eI eI eI)) (eV (eT3 eI eI eI))) eB) ((61, p_book.2.1, p_book.2.2.1, p_book.2.2.2), false))])).bind fun (v_8 : (List D)) => (Q.of (catT v_8 [((eT2 (eT4 eI eI eT0 (eV (eT3 eI eI eI))) eB) ((0, p_book.2.1, (), p_book.2.2.2), false)), ((eT2 (eT4 eI eI eT0 (eV (eT3 eI eI eI))) eB) ((1, p_book.2.1, (), p_book.2.2.2), true)), ((eT2 (eT4 eI eI eT0 (eV (eT3 eI eI eI))) eB) (((-1), p_book.2.1, (), p_book.2.2.2), false))])).bind fun (v_9 : (List D)) => (Q.of (repVT p_book.2.2.2 30)).bind fun (v_10 : (List (Int × Int × Int))) => (Q.of (catT v_9 [((eT2 (eT4 eI eI eT0 (eV (eT3 eI eI eI))) eB) ((((10 : Int) ^ 30), p_book.2.1, (), p_book.2.2.2), false)), ((eT2 (eT4 eI eI eT0 (eV (eT3 eI eI eI))) eB) ((p_book.1, p_book.2.1, (), (cutD v_10 none (some 30))), true))])).bind fun (v_11 : (List D)) => (Q.of (repVT p_book.2.2.2 31)).bind fun (v_12 : (List (Int × Int × Int))) => (Q.of (catT v_11 [((eT2 (eT4 eI eI eT0 (eV (eT3 eI eI eI))) eB) ((p_book.1, p_book.2.1, (), (cutD v_12 none (some 31))), false)), ((eT2 (eT4 eI eI eT0 eT0) eB) ((p_book.1, p_book.2.1, (), ()), true))])).bind fun (v_13 : (List D)) => .ok (v_13, c_5.2)
@[irreducible] def T_law_of_spans (p_pool_here : (List Int)) (p_book : (Int × Int × (Int × Int × Int × Int) × (List (Int × Int × Int)))) : Q ((List D) × (List Int)) :=
  (T_law_take p_pool_here (p_book.2.1 - 1)).noX.bind fun (r_1 : (Int × (List Int))) => (Q.of (modT ((p_book.2.2.1.2.1 + 1) + r_1.1) p_book.2.1)).bind fun (v_2 : Int) => (Q.ok ([((eT4 eI eI eI eI) (v_2, p_book.2.2.1.2.1, 1, p_book.1)), ((eT4 eI eI eI eI) (v_2, p_book.2.2.1.2.1, p_book.1, p_book.1)), ((eT4 eI eI eI eI) (v_2, p_book.2.2.1.2.1, 1, 1)), ((eT4 eI eI eI eI) (v_2, p_book.2.2.1.2.1, p_book.2.2.1.2.2.1, p_book.2.2.1.2.2.2))] : (List D))).bind fun some_3 => (compQ (γ := D) some_3 (() : Unit) (fun (x_4 : D) (s_5 : Unit) => .ok (some ((eT2 (eT4 eI eI (eT1 eD) (eV (eT3 eI eI eI))) eB) ((p_book.1, p_book.2.1, x_4, p_book.2.2.2), true)), ()))).bind fun c_6 => (Q.of (catT [(p_book.2.1, p_book.2.2.1.2.1, 1, 1), ((-1), p_book.2.2.1.2.1, 1, 1), ((p_book.2.2.1.2.1 - p_book.2.1), p_book.2.2.1.2.1, 1, 1), (v_2, p_book.2.1, 1, 1), (0, 0, 1, 1)] [(p_book.2.2.1.2.1, 0, 1, 1), (p_book.2.2.1.1, (-1), 1, 1), (p_book.2.2.1.1, (p_book.2.2.1.2.1 - p_book.2.1), 1, 1), (p_book.2.2.1.2.1, p_book.2.2.1.2.1, 1, 1)])).bind fun (v_7 : (List (Int × Int × Int × Int))) => (Q.of (catT v_7 [(p_book.2.2.1.1, p_book.2.2.1.2.1, 0, p_book.1), (p_book.2.2.1.1, p_book.2.2.1.2.1, 1, (p_book.1 + 1)), (p_book.2.2.1.1, p_book.2.2.1.2.1, (p_book.2.2.1.2.2.2 + 1), p_book.2.2.1.2.2.2)])).bind fun (v_8 : (List (Int × Int × Int × Int))) => (Q.of (roomT (List.length v_8))).bind fun _ => (Q.of (catT (v_8 ++ [(p_book.2.2.1.1, p_book.2.2.1.2.1, (-1), 1)]) [(p_book.2.2.1.1, p_book.2.2.1.2.1, 1, 0), (p_book.2.2.1.1, p_book.2.2.1.2.1, 0, 0), (p_book.2.2.1.1, p_book.2.2.1.2.1, (p_book.1 + 1), (p_book.1 + 1))])).bind fun (v_9 : (List (Int × Int × Int × Int))) => (compQ (γ := D) v_9 (() : Unit) (fun (x_10 : (Int × Int × Int × Int)) (s_11 : Unit) => .ok (some ((eT2 (eT4 eI eI (eT1 eD) (eV (eT3 eI eI eI))) eB) ((p_book.1, p_book.2.1, ((eT4 eI eI eI eI) x_10), p_book.2.2.2), false)), ()))).bind fun c_12 => (Q.of (catT c_6.1 c_12.1)).bind fun (v_13 : (List D)) => .ok (v_13, r_1.2)
@[irreducible] def T_law_of_bounds (p_pool_here : (List Int)) (p_book : (Int × Int × (Int × Int × Int × Int) × (List (Int × Int × Int)))) : Q ((List D) × (List Int)) :=
  (Q.of (atI p_book.2.2.2 0)).bind fun (v_1 : (Int × Int × Int)) => (T_law_take p_pool_here 121).noX.bind fun (r_2 : (Int × (List Int))) => (Q.of (catT [(v_1.1, v_1.2.1, 61), (v_1.1, v_1.2.1, (-61)), (v_1.1, v_1.1, v_1.2.2), (p_book.2.1, v_1.2.1, v_1.2.2), (v_1.1, p_book.2.1, v_1.2.2)] [((-1), v_1.2.1, v_1.2.2), (v_1.1, (-1), v_1.2.2), ((v_1.1 - p_book.2.1), v_1.2.1, v_1.2.2), (v_1.1, v_1.2.1, ((10 : Int) ^ 30))])).bind fun (v_3 : (List (Int × Int × Int))) => (Q.of (roomT (List.length v_3))).bind fun _ => (compQ (γ := D) [(v_1.1, v_1.2.1, 60), (v_1.1, v_1.2.1, (-60)), (0, (p_book.2.1 - 1), 0), ((p_book.2.1 - 1), 0, (r_2.1 - 60))] (() : Unit) (fun (x_4 : (Int × Int × Int)) (s_5 : Unit) => (Q.of (catT (cutD p_book.2.2.2 (some 1) none) [x_4])).bind fun (v_6 : (List (Int × Int × Int))) => .ok (some ((eT2 (eT4 eI eI (eT1 (eT4 eI eI eI eI)) (eV (eT3 eI eI eI))) eB) ((p_book.1, p_book.2.1, p_book.2.2.1, v_6), true)), ()))).bind fun c_7 => (compQ (γ := D) (v_3 ++ [(0, 0, 0)]) (() : Unit) (fun (x_8 : (Int × Int × Int)) (s_9 : Unit) => (Q.of (catT [x_8] (cutD p_book.2.2.2 (some 1) none))).bind fun (v_10 : (List (Int × Int × Int))) => .ok (some ((eT2 (eT4 eI eI (eT1 (eT4 eI eI eI eI)) (eV (eT3 eI eI eI))) eB) ((p_book.1, p_book.2.1, p_book.2.2.1, v_10), false)), ()))).bind fun c_11 => (Q.of (catT c_7.1 c_11.1)).bind fun (v_12 : (List D)) => .ok (v_12, r_2.2)
@[irreducible] def T_is_span (p_thing : D) (p_end : D) (p_many : D) : Q Bool :=
  Q.bind (α := Bool) ((if (!(isiD "tuple" (eD p_thing))) = true then .ok true else (Q.of (lenT (eD p_thing))).bind fun (v_1 : Int) => .ok (!(decide (v_1 = 4))))) fun s_2 => (if s_2 = true then .ok false else (Q.of (un4 p_thing)).bind fun u_3 => Q.bind (α := Bool) ((Q.of (subD (eD p_many) (eI 1))).bind fun (v_5 : D) => (T_is_within u_3.1 (eI 0) v_5).noX.bind fun (r_4 : Bool) => (if (!r_4) = true then .ok true else (Q.of (subD (eD p_many) (eI 1))).bind fun (v_7 : D) => (T_is_within u_3.2.1 (eI 1) v_7).noX.bind fun (r_6 : Bool) => (if (!r_6) = true then .ok true else (Q.of (eqB (eD u_3.1) (eD u_3.2.1))).bind fun (v_8 : Bool) => .ok v_8))) fun s_9 => (if s_9 = true then .ok false else Q.bind (α := Bool) ((T_is_within u_3.2.2.2 (eI 1) p_end).bind fun (r_10 : Bool) => (if r_10 = true then (T_is_within u_3.2.2.1 (eI 1) u_3.2.2.2).bind fun (r_11 : Bool) => .ok r_11 else .ok false)) fun s_12 => .ok s_12))
@[irreducible] def T_is_bound (p_thing : D) (p_many : D) : Q Bool :=
  Q.bind (α := Bool) ((if (!(isiD "tuple" (eD p_thing))) = true then .ok true else (Q.of (lenT (eD p_thing))).bind fun (v_1 : Int) => .ok (!(decide (v_1 = 3))))) fun s_2 => (if s_2 = true then .ok false else (Q.of (un3 p_thing)).bind fun u_3 => Q.bind (α := Bool) ((Q.of (subD (eD p_many) (eI 1))).bind fun (v_5 : D) => (T_is_within u_3.1 (eI 0) v_5).noX.bind fun (r_4 : Bool) => (if (!r_4) = true then .ok true else (Q.of (subD (eD p_many) (eI 1))).bind fun (v_7 : D) => (T_is_within u_3.2.1 (eI 0) v_7).noX.bind fun (r_6 : Bool) => (if (!r_6) = true then .ok true else (Q.of (eqB (eD u_3.1) (eD u_3.2.1))).bind fun (v_8 : Bool) => .ok v_8))) fun s_9 => (if s_9 = true then .ok false else (T_is_within u_3.2.2 (eI (0 - 60)) (eI 60)).bind fun (r_10 : Bool) => .ok r_10))
@[irreducible] def T_check_mark (p_book : (Int × Int × (List (Int × Int × Int × Int)) × (List (Int × Int × Int)))) (p_mark : D) : Q Unit :=
  (T_is_within p_mark (eI 0) (eI (p_book.2.1 - 1))).bind fun (r_1 : Bool) => (if (!r_1) = true then .exc ⟨"NoMark"⟩ [] else .ok ())
@[irreducible] def T_ways_of (p_book : (Int × Int × (List (Int × Int × Int × Int)) × (List (Int × Int × Int)))) : Q (List (List Int)) :=
  (T_froms p_book).bind fun (r_1 : (List (Int × Int))) => (Q.of (rgT 0 p_book.2.1)).bind fun (xs_2 : List Int) => (compQ (γ := (List Int)) xs_2 (() : Unit) (fun (x_3 : Int) (s_4 : Unit) => (T_way_from p_book.2.2.1 r_1 x_3).bind fun (r_5 : (List Int)) => .ok (some r_5, ()))).bind fun c_6 => .ok c_6.1
@[irreducible] def T_are_spans (p_thing : D) (p_end : D) (p_many : D) : Q Bool :=
  Q.bind (α := Bool) ((if (!(isiD "tuple" (eD p_thing))) = true then .ok true else (Q.of (lenT (eD p_thing))).bind fun (v_1 : Int) => .ok (decide (4 < v_1)))) fun s_2 => (if s_2 = true then .ok false else (Q.of (itT p_thing)).bind fun (xs_3 : List D) => (compQ (γ := Bool) xs_3 (() : Unit) (fun (x_4 : D) (s_5 : Unit) => (T_is_span x_4 p_end p_many).bind fun (r_6 : Bool) => .ok (some r_6, ()))).bind fun c_7 => (if (!(List.all c_7.1 id)) = true then .ok false else (T_spans_by_goal_D p_thing).bind fun (r_8 : (List (Int × Int))) => Q.bind (α := Bool) ((Q.of (lenT (eD p_thing))).bind fun (v_9 : Int) => (if (decide (((List.length r_8 : Nat) : Int) = v_9)) = true then (compQ (γ := Bool) (List.map (fun p => p.1) r_8) (() : Unit) (fun (x_10 : Int) (s_11 : Unit) => (T_way_from_D p_thing r_8 (eI x_10)).bind fun (r_12 : (List Int)) => (Q.of (lenT (eD p_thing))).bind fun (v_13 : Int) => .ok (some (decide (((List.length r_12 : Nat) : Int) ≤ v_13)), ()))).bind fun c_14 => .ok (List.all c_14.1 id) else .ok false)) fun s_17 => .ok s_17))
@[irreducible] def T_is_book (p_thing : D) : Q Bool :=
  Q.bind (α := Bool) ((if (!(isiD "tuple" (eD p_thing))) = true then .ok true else (Q.of (lenT (eD p_thing))).bind fun (v_1 : Int) => .ok (!(decide (v_1 = 4))))) fun s_2 => (if s_2 = true then .ok false else (Q.of (un4 p_thing)).bind fun u_3 => Q.bind (α := Bool) ((T_is_within u_3.1 (eI 1) (eI 60)).bind fun (r_4 : Bool) => (if (!r_4) = true then .ok true else (T_is_within u_3.2.1 (eI 1) (eI 10)).bind fun (r_5 : Bool) => (if (!r_5) = true then .ok true else (T_are_spans u_3.2.2.1 u_3.1 u_3.2.1).bind fun (r_6 : Bool) => .ok (!r_6)))) fun s_7 => (if s_7 = true then .ok false else Q.bind (α := Bool) ((if (!(isiD "tuple" (eD u_3.2.2.2))) = true then .ok true else (Q.of (lenT (eD u_3.2.2.2))).bind fun (v_8 : Int) => .ok (decide (30 < v_8)))) fun s_9 => (if s_9 = true then .ok false else (Q.of (itT u_3.2.2.2)).bind fun (xs_10 : List D) => (compQ (γ := Bool) xs_10 (() : Unit) (fun (x_11 : D) (s_12 : Unit) => (T_is_bound x_11 u_3.2.1).bind fun (r_13 : Bool) => .ok (some r_13, ()))).bind fun c_14 => .ok (List.all c_14.1 id))))
@[irreducible] def T_check_book (p_book : D) : Q Unit :=
  (T_is_book p_book).bind fun (r_1 : Bool) => (if (!r_1) = true then .exc ⟨"NoBook"⟩ [] else .ok ())
@[irreducible] def T_chosen (p_book : (Int × Int × (List (Int × Int × Int × Int)) × (List (Int × Int × Int)))) : Q (List Int) :=
  (T_check_book ((eT4 eI eI (eV (eT4 eI eI eI eI)) (eV (eT3 eI eI eI))) p_book)).bind fun (r_1 : Unit) => (T_froms p_book).bind fun (r_2 : (List (Int × Int))) => (Q.of (rgT 1 p_book.2.1)).bind fun (xs_3 : List Int) => (compQ (γ := Int) xs_3 (() : Unit) (fun (x_4 : Int) (s_5 : Unit) => (if (!(Option.isSome (getT r_2 x_4))) = true then .ok (some x_4, ()) else .ok (none, ())))).bind fun c_6 => .ok c_6.1
@[irreducible] def T_root (p_book : (Int × Int × (List (Int × Int × Int × Int)) × (List (Int × Int × Int)))) (p_mark : D) : Q D :=
  (T_check_book ((eT4 eI eI (eV (eT4 eI eI eI eI)) (eV (eT3 eI eI eI))) p_book)).bind fun (r_1 : Unit) => (T_check_mark p_book p_mark).bind fun (r_2 : Unit) => (T_ways_of p_book).bind fun (r_3 : (List (List Int))) => (Q.of (atX r_3 p_mark)).bind fun (v_4 : (List Int)) => (foldQ v_4 (p_mark : D) (fun (x_5 : Int) (s_6 : D) => (Q.of (atI p_book.2.2.1 x_5)).bind fun (v_7 : (Int × Int × Int × Int)) => .ok (eI v_7.1))).bind fun (s_8 : D) => .ok s_8
@[irreducible] def T_show_book (p_book : (Int × Int × (List (Int × Int × Int × Int)) × (List (Int × Int × Int)))) : Q Unit :=
  (T_check_book ((eT4 eI eI (eV (eT4 eI eI eI eI)) (eV (eT3 eI eI eI))) p_book)).bind fun (r_1 : Unit) => .bad
@[irreducible] def T_law_refused (p_thing : (Int × Int × (List (Int × Int × Int × Int)) × (List (Int × Int × Int)))) (p_mark : D) : Q Bool :=
  Q.lf (σ := (Option XV)) (ρ := Bool) (tryQ (mTab [("NoBook", true)]) ((T_root p_thing p_mark).bind fun (r_1 : D) => .ok (.nx (none : Option XV))) (fun x_2 => .ok (.nx (some x_2)))) (fun s_3 => (T_law_only s_3).noX.bind fun (r_4 : Bool) => .ok r_4) (fun r => .ok r)
@[irreducible] def T_law_refused_all (p_thing : (Int × Int × (List (Int × Int × Int × Int)) × (List (Int × Int × Int)))) : Q Bool :=
  Q.lf (σ := (Option XV)) (ρ := Bool) (tryQ (mTab [("NoBook", true)]) ((T_chosen p_thing).bind fun (r_1 : (List Int)) => .ok (.nx (none : Option XV))) (fun x_2 => .ok (.nx (some x_2)))) (fun s_3 => Q.lf (σ := (Option XV)) (ρ := Bool) (tryQ (mTab [("NoBook", true)]) ((T_show_book p_thing).bind fun (r_4 : Unit) => .ok (.nx (none : Option XV))) (fun x_5 => .ok (.nx (some x_5)))) (fun s_6 => Q.bind (α := Bool) ((T_law_only s_3).noX.bind fun (r_7 : Bool) => (if r_7 = true then (T_law_only s_6).noX.bind fun (r_8 : Bool) => .ok r_8 else .ok false)) fun s_9 => .ok s_9) (fun r => .ok r)) (fun r => .ok r)
@[irreducible] def T_law_right (p_thing : (Int × Int × (List (Int × Int × Int × Int)) × (List (Int × Int × Int)))) (p_due : Bool) : Q Bool :=
  (T_is_book ((eT4 eI eI (eV (eT4 eI eI eI eI)) (eV (eT3 eI eI eI))) p_thing)).bind fun (r_1 : Bool) => (if ((!true) || (!(r_1 == p_due))) = true then .ok false else (if p_due = true then Q.bind (α := Bool) ((T_root p_thing (eI 0)).bind fun (r_2 : D) => (Q.of (eqB (eD r_2) (eI 0))).bind fun (v_3 : Bool) => (if v_3 = true then (T_chosen p_thing).bind fun (r_4 : (List Int)) => .ok true else .ok false)) fun s_5 => .ok s_5 else Q.bind (α := Bool) ((T_law_refused_all p_thing).bind fun (r_6 : Bool) => (if r_6 = true then (compQ (γ := Bool) [(eI 0), (eI (-1)), (eN ()), ((eL eI) [0])] (() : Unit) (fun (x_7 : D) (s_8 : Unit) => (T_law_refused p_thing x_7).bind fun (r_9 : Bool) => .ok (some r_9, ()))).bind fun c_10 => .ok (List.all c_10.1 id) else .ok false)) fun s_13 => .ok s_13))
@[irreducible] def T_law (p_script : List Int) : Q Bool :=
  (Q.of (rgT 0 (max 2 (min ((List.length p_script : Nat) : Int) 10)))).bind fun (xs_1 : List Int) => (forQ (ρ := Bool) xs_1 (() : Unit) (fun (x_2 : Int) (s_3 : Unit) => (T_law_pool p_script x_2).noX.bind fun (r_4 : (List Int)) => (T_law_take r_4 60).noX.bind fun (r_5 : (Int × (List Int))) => (T_law_take r_5.2 9).noX.bind fun (r_6 : (Int × (List Int))) => (T_law_take r_6.2 ((2 + r_6.1) - 1)).noX.bind fun (r_7 : (Int × (List Int))) => (T_law_take r_7.2 (1 + r_5.1)).noX.bind fun (r_8 : (Int × (List Int))) => (T_law_take r_8.2 ((2 + r_6.1) - 1)).noX.bind fun (r_9 : (Int × (List Int))) => (Q.of (modT (((1 + r_7.1) + 1) + r_9.1) (2 + r_6.1))).bind fun (v_10 : Int) => (T_law_take r_9.2 (((1 + r_5.1) + 1) - (1 + r_8.1))).noX.bind fun (r_11 : (Int × (List Int))) => (T_law_bounds r_11.2 (2 + r_6.1)).noX.bind fun (r_12 : ((List (Int × Int × Int)) × (List Int))) => (T_law_sizes r_12.2 ((1 + r_5.1), (2 + r_6.1), (v_10, (1 + r_7.1), (1 + r_8.1), ((1 + r_8.1) + r_11.1)), r_12.1)).noX.bind fun (r_13 : ((List D) × (List Int))) => (T_law_of_spans r_13.2 ((1 + r_5.1), (2 + r_6.1), (v_10, (1 + r_7.1), (1 + r_8.1), ((1 + r_8.1) + r_11.1)), r_12.1)).noX.bind fun (r_14 : ((List D) × (List Int))) => (Q.of (catT r_13.1 r_14.1)).bind fun (v_15 : (List D)) => (T_law_of_bounds r_14.2 ((1 + r_5.1), (2 + r_6.1), (v_10, (1 + r_7.1), (1 + r_8.1), ((1 + r_8.1) + r_11.1)), r_12.1)).noX.bind fun (r_16 : ((List D) × (List Int))) => (Q.of (catT v_15 r_16.1)).bind fun (v_17 : (List D)) => (Q.of (catT v_17 [((eT2 (eT4 eI eI (eT1 (eT4 eI eI eI eI)) (eV (eT3 eI eI eI))) eB) (((1 + r_5.1), (2 + r_6.1), (v_10, (1 + r_7.1), (1 + r_8.1), ((1 + r_8.1) + r_11.1)), r_12.1), true))])).bind fun (v_18 : (List D)) => (compQ (γ := Bool) v_18 (() : Unit) (fun (x_19 : D) (s_20 : Unit) => (Q.of (un2 x_19)).bind fun u_21 => (Q.of ((unT4 unI unI (unV (unT4 unI unI unI unI)) (unV (unT3 unI unI unI))) u_21.1)).bind fun (v_23 : (Int × Int × (List (Int × Int × Int × Int)) × (List (Int × Int × Int)))) => (Q.of (unB u_21.2)).bind fun (v_24 : Bool) => ((T_law_right v_23 v_24).ex (fun es => es)).bind fun (r_22 : Bool) => .ok (some r_22, ()))).bind fun c_25 => (if (!(List.all c_25.1 id)) = true then .ok (.rt false) else .ok (.nx ())))).lf (fun (s_28 : Unit) => .ok true) (fun r => .ok r)
end Law

namespace Law
open PySem L2 DL
theorem R_is_whole_d (p_x : D) : RFn F_is_whole [.dat (eD p_x)] (T_is_whole p_x) (fun (r : Bool) => SV.dat (eB r)) (fun (r : Bool) => []) := by
  unfold T_is_whole F_is_whole b_is_whole
  exact rf_fnA ([some (.dat (eD p_x))] : AS) [] (np_d np_n) rfl rfl
    (cb_ret (ce_pure (pe_and (pe_isi (PL.plr (PE1.pl (pe_var rfl)))) (pe_not (pe_isi (PL.plr (PE1.pl (pe_var rfl)))))) ⟨_, rfl, rfl, trivial⟩))
theorem R_spans_by_goal_d (p_spans : (List (Int × Int × Int × Int))) : RFn F_spans_by_goal [.dat ((eV (eT4 eI eI eI eI)) p_spans)] (T_spans_by_goal p_spans) (fun (r : (List (Int × Int))) => SV.dat ((eK eI) r)) (fun (r : (List (Int × Int))) => []) := by
  unfold T_spans_by_goal F_spans_by_goal b_spans_by_goal
  exact rf_fnA ([some (.dat ((eV (eT4 eI eI eI eI)) p_spans)), none, none, none] : AS) [] (np_d np_n) rfl rfl
    (cb_seq (cb_set (ce_dicM (.inr ⟨_, rfl, (cb_seq (cb_for (ci_enum (ca_pure (pa_cons (pe_var rfl) pa_nil) ⟨_, .inr rfl, (cl_foldI (σ := (List (Int × Int))) (eT2 eI (eT4 eI eI eI eI)) (fun (s : (List (Int × Int))) => ([some (.dat ((eV (eT4 eI eI eI eI)) p_spans)), some (.ob (O.dic (dicE eI s))), none, none] : AS)) (fun x_1 s_2 => (cg_tp rfl (cgs_cons (cg_nm (cgs_cons (cg_nm (cgs_nil (cb_putD eI (ce_pure (pe_var rfl) ⟨IsOb.m rfl, (ce_pure (pe_ix (PL.plr (PE1.pl (pe_var rfl))) (PE1.pl pe_c) rfl) ⟨_, _, x_1.1, _, _, rfl, rfl, (.m rfl rfl), rfl, ⟨_, rfl, (.keep (.keep (.drop (.drop .nil))))⟩⟩)⟩))))))))) (fun s_3 => (cb_ret (ce_frz (ce_mut rfl (.inr (.inr ⟨_, _, rfl, rfl, ⟨_, rfl, rfl, trivial⟩⟩)))))) (enum_T (eT4 eI eI eI eI) p_spans) (.keep (.keep (.drop (.drop .nil)))))⟩))))⟩))))
theorem R_spans_by_goal_D_d (p_spans : D) : RFn F_spans_by_goal [.dat (eD p_spans)] (T_spans_by_goal_D p_spans) (fun (r : (List (Int × Int))) => SV.dat ((eK eI) r)) (fun (r : (List (Int × Int))) => []) := by
  unfold T_spans_by_goal_D F_spans_by_goal b_spans_by_goal
  exact rf_fnA ([some (.dat (eD p_spans)), none, none, none] : AS) [] (np_d np_n) rfl rfl
    (cb_seq (cb_set (ce_dicM (.inr ⟨_, rfl, (cb_seq (cb_for (ci_enumD (ca_pure (pa_cons (pe_var rfl) pa_nil) ⟨_, _, rfl, rfl, fun xs_1 => (cl_foldI (σ := (List (Int × Int))) (eT2 eI eD) (fun (s : (List (Int × Int))) => ([some (.dat (eD p_spans)), some (.ob (O.dic (dicE eI s))), none, none] : AS)) (fun x_2 s_3 => (cg_tp rfl (cgs_cons (cg_nm (cgs_cons (cg_nm (cgs_nil (cb_putDX eI (ce_pure (pe_var rfl) ⟨IsOb.m rfl, (ce_ix (ce_pure (pe_var rfl) (ce_pure pe_c ⟨_, _, rfl, rfl, (fin_of eD (map_id' _) (fun v_4 => ⟨_, _, x_2.1, _, _, rfl, rfl, (.m rfl rfl), rfl, fun k_5 => ⟨_, rfl, (.keep (.keep (.drop (.drop .nil))))⟩⟩))⟩)))⟩))))))))) (fun s_6 => (cb_ret (ce_frz (ce_mut rfl (.inr (.inr ⟨_, _, rfl, rfl, ⟨_, rfl, rfl, trivial⟩⟩)))))) (enum_T eD xs_1) (.keep (.keep (.drop (.drop .nil)))))⟩))))⟩))))
theorem R_way_from_ddd (p_spans : (List (Int × Int × Int × Int))) (p_known : (List (Int × Int))) (p_mark : Int) : RFn F_way_from [.dat ((eV (eT4 eI eI eI eI)) p_spans), .dat ((eK eI) p_known), .dat (eI p_mark)] (T_way_from p_spans p_known p_mark) (fun (r : (List Int)) => SV.dat ((eL eI) r)) (fun (r : (List Int)) => []) := by
  unfold T_way_from F_way_from b_way_from
  exact rf_fnA ([some (.dat ((eV (eT4 eI eI eI eI)) p_spans)), some (.dat ((eK eI) p_known)), some (.dat (eI p_mark)), none] : AS) [] (np_d (np_d (np_d np_n))) rfl rfl
    (cb_seq (cb_set (ce_lstM (ca_pure pa_nil ⟨[], rfl, leB rfl, (.inr ⟨_, rfl, (cb_seq (cl_whileI (σ := (Int × (List Int))) (fun (s : (Int × (List Int))) => ([some (.dat ((eV (eT4 eI eI eI eI)) p_spans)), some (.dat ((eK eI) p_known)), some (.dat (eI s.1)), some (.ob (O.lst (List.map eI s.2)))] : AS)) (fun s_1 => (ct_pure (pt_and (pt_of (pe_bin (PE1.pl (pe_var rfl)) (PE1.pl (pe_var rfl)) (o_inK eI s_1.1 p_known))) (pt_of (pe_bin (PE1.pl (pe_cb (pla_cons (PL.plr (pl_mut rfl)) pla_nil) (o_lenL eI s_1.2))) (PE1.pl (pe_cb (pla_cons (PL.plr (PE1.pl (pe_var rfl))) pla_nil) (o_lenV (eT4 eI eI eI eI) p_spans))) rfl))) ⟨_, rfl, rfl, (.keep (.keep (.keep (.keep .nil))))⟩)) (fun s_1 => (cb_seq (cb_app eI (.m rfl rfl) (ce_ix (ce_pure (pe_var rfl) (ce_pure (pe_var rfl) ⟨_, _, rfl, rfl, (fin_of eI (o_ixK eI p_known s_1.1) (fun v_2 => ⟨_, v_2, _, _, rfl, (.m rfl rfl), rfl, (cb_set (ce_ix (ce_ix (ce_pure (pe_var rfl) (ce_ix (ce_pure (pe_var rfl) (ce_pure (pe_var rfl) ⟨_, _, rfl, rfl, (fin_of eI (o_ixK eI p_known s_1.1) (fun v_3 => ⟨_, _, rfl, rfl, (fin_of (eT4 eI eI eI eI) (o_ixV (eT4 eI eI eI eI) p_spans v_3) (fun v_4 => (ce_pure pe_c ⟨_, _, rfl, rfl, (fin_ok rfl (.inl ⟨_, rfl, ⟨_, rfl, (.keep (.keep (.keep (.keep .nil))))⟩⟩))⟩)))⟩))⟩)))))))⟩))⟩)))))) (fun s_5 => (cb_ret (ce_frz (ce_mut rfl (.inr (.inr ⟨_, _, rfl, rfl, ⟨_, rfl, rfl, trivial⟩⟩)))))) (.keep (.keep (.keep (.keep .nil))))))⟩)⟩))))
theorem R_way_from_D_ddd (p_spans : D) (p_known : (List (Int × Int))) (p_mark : D) : RFn F_way_from [.dat (eD p_spans), .dat ((eK eI) p_known), .dat (eD p_mark)] (T_way_from_D p_spans p_known p_mark) (fun (r : (List Int)) => SV.dat ((eL eI) r)) (fun (r : (List Int)) => []) := by
  unfold T_way_from_D F_way_from b_way_from
  exact rf_fnA ([some (.dat (eD p_spans)), some (.dat ((eK eI) p_known)), some (.dat (eD p_mark)), none] : AS) [] (np_d (np_d (np_d np_n))) rfl rfl
    (cb_seq (cb_set (ce_lstM (ca_pure pa_nil ⟨[], rfl, leB rfl, (.inr ⟨_, rfl, (cb_seq (cl_whileI (σ := (D × (List Int))) (fun (s : (D × (List Int))) => ([some (.dat (eD p_spans)), some (.dat ((eK eI) p_known)), some (.dat (eD s.1)), some (.ob (O.lst (List.map eI s.2)))] : AS)) (fun s_1 => (ct_and (ct_of (ce_bin (ce_pure (pe_var rfl) (ce_pure (pe_var rfl) ⟨_, _, rfl, rfl, (fin_imp eB (o_inKX eI s_1.1 p_known) (fun v_2 => ⟨_, rfl, (and_ct (fun _ => (ct_of (ce_bin (ce_pure (pe_cb (pla_cons (PL.plr (pl_mut rfl)) pla_nil) (o_lenL eI s_1.2)) (ce_cb (ca_dat (ce_pure (pe_var rfl) ⟨_, rfl, (ca_nil ⟨_, (.cons rfl .nil), (fin_of eI (o_lenD _) (fun v_3 => ⟨_, _, rfl, rfl, (fin_ok rfl ⟨_, rfl, ⟨_, rfl, rfl, (.keep (.keep (.keep (.keep .nil))))⟩⟩)⟩))⟩)⟩))))))) (fun _ => ⟨_, rfl, rfl, (.keep (.keep (.keep (.keep .nil))))⟩))⟩))⟩)))))) (fun s_1 => (cb_seq (cb_app eI (.m rfl rfl) (ce_ix (ce_pure (pe_var rfl) (ce_pure (pe_var rfl) ⟨_, _, rfl, rfl, (fin_imp eI (o_ixKX eI p_known s_1.1) (fun v_4 => ⟨_, v_4, _, _, rfl, (.m rfl rfl), rfl, (cb_set (ce_ix (ce_ix (ce_pure (pe_var rfl) (ce_ix (ce_pure (pe_var rfl) (ce_pure (pe_var rfl) ⟨_, _, rfl, rfl, (fin_imp eI (o_ixKX eI p_known s_1.1) (fun v_5 => ⟨_, _, rfl, rfl, (fin_of eD (map_id' _) (fun v_6 => (ce_pure pe_c ⟨_, _, rfl, rfl, (fin_of eD (map_id' _) (fun v_7 => (.inl ⟨_, rfl, ⟨_, rfl, (.keep (.keep (.keep (.keep .nil))))⟩⟩)))⟩)))⟩))⟩)))))))⟩))⟩)))))) (fun s_8 => (cb_ret (ce_frz (ce_mut rfl (.inr (.inr ⟨_, _, rfl, rfl, ⟨_, rfl, rfl, trivial⟩⟩)))))) (.keep (.keep (.keep (.keep .nil))))))⟩)⟩))))
theorem R_law_pool_sd (p_script : List Int) (p_k : Int) : RFn F__law_pool [.scr (List.map PyData.int p_script), .dat (eI p_k)] (T_law_pool p_script p_k) (fun (r : (List Int)) => SV.ob (O.lst (List.map eI r))) (fun (r : (List Int)) => []) := by
  unfold T_law_pool F__law_pool b__law_pool
  exact rf_fnA ([some (.scr (List.map PyData.int p_script)), some (.dat (eI p_k)), none, none, none, none] : AS) [] (np_s (np_d np_n)) rfl rfl
    (cb_seq (cb_setP eI (pe_cb (pla_cons (PL.plr (PE1.pl (pe_sl (plr_scr rfl) (po_some (pe_var rfl)) (po_some (pe_bin (PE1.pl (pe_var rfl)) (PE1.pl pe_c) rfl)) (o_slL eI p_script _ _)))) pla_nil) (o_sum (cutD p_script (some p_k) (some (p_k + 1))))) (fun cell_1 => (cb_seq (cb_if (ct_pure (pt_or (pt_of (pe_bin (PE1.pl (pe_var rfl)) (PE1.pl pe_c) rfl)) (pt_of (pe_bin (PE1.pl (pe_var rfl)) (PE1.pl (pe_bin (PE1.pl pe_c) (PE1.pl pe_c) rfl)) rfl))) (cond_split (fun _ => (cb_ret (ce_lstM (ca_dat (ce_bin (ce_pure (pe_cb (pla_cons (PL.plr (PE1.pl (pe_var rfl))) pla_nil) (o_abs _)) (ce_pure pe_p384 ⟨_, _, rfl, rfl, (fin_of eI (o_modT _ _) (fun v_2 => ⟨_, rfl, (ca_nil ⟨[(eI v_2)], rfl, leB rfl, ⟨_, rfl, rfl, trivial⟩⟩)⟩))⟩))))))) (fun _ => (cb_nil (cb_seq (cb_set (ce_bin (ce_bin (ce_pure (pe_bin (PE1.pl (pe_var rfl)) (PE1.pl pe_c) (mulD_r rfl)) (ce_bin (ce_pure (pe_bin (PE1.pl pe_c) (PE1.pl (pe_var rfl)) (mulD_l rfl)) (ce_pure (pe_var rfl) ⟨_, _, rfl, rfl, (fin_of eI (o_mulT _ _) (fun v_3 => ⟨_, _, rfl, rfl, (fin_ok rfl (ce_pure pe_c ⟨_, _, rfl, rfl, (fin_ok rfl (.inl ⟨_, rfl, (cb_seq (cb_set (ce_pure pe_c (.inl ⟨_, rfl, (cb_seq (cb_for (ci_r1 (ca_pure (pa_cons pe_c pa_nil) ⟨_, _, rfl, rfl, fun xs_4 => (cl_foldI (σ := (Int × Int)) eI (fun (s : (Int × Int)) => ([some (.scr (List.map PyData.int p_script)), some (.dat (eI p_k)), some (.dat (eI cell_1)), some (.dat (eI s.1)), some (.dat (eI s.2)), none] : AS)) (fun x_5 s_6 => (cg_nm (cb_seq (cb_setP eI (pe_bin (PE1.pl (pe_bin (PE1.pl (pe_bin (PE1.pl (pe_bin (PE1.pl (pe_bin (PE1.pl (pe_var rfl)) (PE1.pl pe_c) (modD_ok (by decide)))) (PE1.pl pe_c) (mulD_r rfl))) (PE1.pl (pe_bin (PE1.pl pe_c) (PE1.pl (pe_var rfl)) (mulD_l rfl))) rfl)) (PE1.pl pe_c) rfl)) (PE1.pl pe_c) (modD_ok (by decide))) (fun more_7 => (cb_set (ce_bin (ce_bin (ce_pure (pe_var rfl) (ce_pure (pe_bin (PE1.pl pe_c) (PE1.pl pe_c) rfl) ⟨_, _, rfl, rfl, (fin_of eI (o_mulT _ _) (fun v_8 => (ce_bin (ce_bin (ce_pure (pe_var rfl) (ce_pure (pe_bin (PE1.pl (pe_bin (PE1.pl (pe_var rfl)) (PE1.pl pe_c) (modD_ok (by decide)))) (PE1.pl pe_c) rfl) ⟨_, _, rfl, rfl, (fin_of eI (o_mulT _ _) (fun v_9 => (ce_pure pe_c ⟨_, _, rfl, rfl, (fin_ok (modD_ok (by decide)) ⟨_, _, rfl, rfl, (fin_ok rfl (.inl ⟨_, rfl, ⟨_, rfl, (.keep (.keep (.keep (.keep (.keep (.drop .nil))))))⟩⟩))⟩)⟩)))⟩))))))⟩)))))))))) (fun s_10 => (cb_ret (ce_lstM (ca_pure (pa_cons (pe_var rfl) pa_nil) ⟨[(eI s_10.2)], rfl, leB rfl, ⟨_, rfl, rfl, trivial⟩⟩)))) rfl (.keep (.keep (.keep (.keep (.keep (.drop .nil)))))))⟩))))⟩))))⟩))⟩))⟩))⟩)))))))))))))))))
theorem R_law_take_od (p_pool_here : (List Int)) (p_many : Int) : RFn F__law_take [.ob (O.lst (List.map eI p_pool_here)), .dat (eI p_many)] (T_law_take p_pool_here p_many) (fun (r : (Int × (List Int))) => SV.dat (eI r.1)) (fun (r : (Int × (List Int))) => [(O.lst (List.map eI r.2))]) := by
  unfold T_law_take F__law_take b__law_take
  exact rf_fnA ([some (.par 0 (O.lst (List.map eI p_pool_here))), some (.dat (eI p_many)), none] : AS) [0] (np_o (np_d np_n)) rfl rfl
    (cb_seq (cb_asg (ce_cb (ca_dat (ce_ix (ce_par rfl (ce_pure pe_c ⟨_, _, ⟨_, .inr ⟨_, rfl⟩, rfl⟩, rfl, (fin_of eI (o_ixL eI p_pool_here 0) (fun v_1 => ⟨_, rfl, (ca_dat (ce_pure (pe_var rfl) ⟨_, rfl, (ca_nil ⟨_, (.cons rfl (.cons rfl .nil)), (fin_of (eT2 eI eI) (o_divmodT _ _) (fun v_2 => ⟨_, rfl, (cg_tp rfl (cgs_cons (cg_put eI (.p _ rfl rfl) pe_c (fun pool_here_3 => (cgs_cons (cg_nm (cgs_nil (cb_at ([some (.par 0 (O.lst (List.map eI pool_here_3))), some (.dat (eI p_many)), some (.dat (eI v_2.2))] : AS) rfl (cb_ret (ce_pure (pe_var rfl) ⟨_, rfl, rfl, ⟨rfl, trivial⟩⟩))))))))))⟩))⟩)⟩))⟩))⟩)))))))
theorem R_law_only_e (p_caught : (Option XV)) : RFn F__law_only [.er p_caught] (T_law_only p_caught) (fun (r : Bool) => SV.dat (eB r)) (fun (r : Bool) => []) := by
  unfold T_law_only F__law_only b__law_only
  exact rf_fnA ([some (.er p_caught)] : AS) [] (np_e np_n) rfl rfl
    (cb_seq (cb_if (ct_tru (ce_isE (ce_er rfl ⟨_, rfl, fin_of eB rfl (fun b_1 => ⟨_, _, rfl, rfl, (cond_split (fun _ => (cb_ret (ce_pure pe_c ⟨_, rfl, rfl, trivial⟩))) (fun _ => (cb_nil (cb_seq (cb_if (ct_tru (ce_isE (ce_er rfl ⟨_, rfl, fin_of eB rfl (fun b_2 => ⟨_, _, rfl, rfl, (cond_split (fun _ => (cb_ret (ce_pure pe_c ⟨_, rfl, rfl, trivial⟩))) (fun _ => (cb_nil (cb_ret (ce_join (σ := Bool) (fun s => (eB s)) (fun s => ([some (.er p_caught)] : AS)) (ce_and (ce_isE (ce_er rfl ⟨_, rfl, fin_of eB rfl (fun b_3 => ⟨_, rfl, and_ce (fun _ => (ce_isE (ce_er rfl ⟨_, rfl, fin_of eB rfl (fun b_4 => ⟨_, rfl, rfl, (.keep .nil)⟩)⟩))) (fun _ => ⟨_, rfl, rfl, (.keep .nil)⟩)⟩)⟩))) (fun s_5 => ⟨_, rfl, rfl, trivial⟩))))))⟩)⟩))))))))⟩)⟩)))))
theorem R_is_within_ddd (p_x : D) (p_least : D) (p_most : D) : RFn F_is_within [.dat (eD p_x), .dat (eD p_least), .dat (eD p_most)] (T_is_within p_x p_least p_most) (fun (r : Bool) => SV.dat (eB r)) (fun (r : Bool) => []) := by
  unfold T_is_within F_is_within b_is_within
  exact rf_fnA ([some (.dat (eD p_x)), some (.dat (eD p_least)), some (.dat (eD p_most))] : AS) [] (np_d (np_d (np_d np_n))) rfl rfl
    (cb_ret (ce_join (σ := Bool) (fun s => (eB s)) (fun s => ([some (.dat (eD p_x)), some (.dat (eD p_least)), some (.dat (eD p_most))] : AS)) (ce_and (ce_call0 (pa_cons (pe_var rfl) pa_nil) rfl (R_is_whole_d p_x) (fun r_1 => ⟨_, rfl, and_ce (fun _ => (ce_chainQ (ce_pure (pe_var rfl) (ce_pure (pe_var rfl) ⟨_, _, _, _, rfl, rfl, (o_cmpT _ _ _), rfl, fun p_3 => ch_ce (fun _ => (ce_pure (pe_var rfl) ⟨_, rfl, (fin_of eB (o_cmpT _ _ _) (fun v_2 => ⟨_, rfl, rfl, (.keep (.keep (.keep .nil)))⟩))⟩)) (fun _ => ⟨_, rfl, rfl, (.keep (.keep (.keep .nil)))⟩)⟩)))) (fun _ => ⟨_, rfl, rfl, (.keep (.keep (.keep .nil)))⟩)⟩) trivial)) (fun s_4 => ⟨_, rfl, rfl, trivial⟩)))
theorem R_froms_d (p_book : (Int × Int × (List (Int × Int × Int × Int)) × (List (Int × Int × Int)))) : RFn F_froms [.dat ((eT4 eI eI (eV (eT4 eI eI eI eI)) (eV (eT3 eI eI eI))) p_book)] (T_froms p_book) (fun (r : (List (Int × Int))) => SV.dat ((eK eI) r)) (fun (r : (List (Int × Int))) => []) := by
  unfold T_froms F_froms b_froms
  exact rf_fnA ([some (.dat ((eT4 eI eI (eV (eT4 eI eI eI eI)) (eV (eT3 eI eI eI))) p_book))] : AS) [] (np_d np_n) rfl rfl
    (cb_ret (ce_call0 (pa_cons (pe_ix (PL.plr (PE1.pl (pe_var rfl))) (PE1.pl pe_c) rfl) pa_nil) rfl (R_spans_by_goal_d p_book.2.2.1) (fun r_1 => ⟨_, rfl, rfl, trivial⟩) trivial))
theorem R_law_bounds_od (p_pool_here : (List Int)) (p_many : Int) : RFn F__law_bounds [.ob (O.lst (List.map eI p_pool_here)), .dat (eI p_many)] (T_law_bounds p_pool_here p_many) (fun (r : ((List (Int × Int × Int)) × (List Int))) => SV.dat ((eV (eT3 eI eI eI)) r.1)) (fun (r : ((List (Int × Int × Int)) × (List Int))) => [(O.lst (List.map eI r.2))]) := by
  unfold T_law_bounds F__law_bounds b__law_bounds
  exact rf_fnA ([some (.par 0 (O.lst (List.map eI p_pool_here))), some (.dat (eI p_many)), none, none, none] : AS) [0] (np_o (np_d np_n)) rfl rfl
    (cb_seq (cb_set (ce_lstM (ca_pure pa_nil ⟨[], rfl, leB rfl, (.inr ⟨_, rfl, (cb_seq (cb_for (ci_r1 (ca_dat (ce_bin (ce_pure pe_c (ce_callN (ca_sl (IsOb.p rfl) (ca_dat (ce_pure pe_c ⟨_, rfl, (ca_nil ⟨(IsOb.p rfl), ⟨_, _, _, _, _, _, rfl, (.slp rfl (.dat .nil)), rfl, (show List.Nodup [0] from by decide), R_law_take_od p_pool_here 30, fun r_1 => ⟨_, _, rfl, rfl, (fin_ok rfl ⟨_, rfl, (ca_nil ⟨_, _, rfl, rfl, fun xs_2 => (cl_foldI (σ := ((List Int) × (List (Int × Int × Int)))) eI (fun (s : ((List Int) × (List (Int × Int × Int)))) => ([some (.par 0 (O.lst (List.map eI s.1))), some (.dat (eI p_many)), some (.ob (O.lst (List.map (eT3 eI eI eI) s.2))), none, none] : AS)) (fun x_3 s_4 => (cg_nm (cb_seq (cb_set (ce_callN (ca_sl (IsOb.p rfl) (ca_dat (ce_pure (pe_var rfl) ⟨_, rfl, (ca_nil ⟨(IsOb.p rfl), ⟨_, _, _, _, _, _, rfl, (.slp rfl (.dat .nil)), rfl, (show List.Nodup [0] from by decide), R_law_take_od s_4.1 p_many, fun r_5 => (.inl ⟨_, rfl, (cb_app (eT3 eI eI eI) (.m rfl rfl) (ce_tup (ca_dat (ce_pure (pe_var rfl) ⟨_, rfl, (ca_dat (ce_bin (ce_bin (ce_pure (pe_bin (PE1.pl (pe_var rfl)) (PE1.pl pe_c) rfl) (ce_callN (ca_sl (IsOb.p rfl) (ca_dat (ce_pure (pe_bin (PE1.pl (pe_var rfl)) (PE1.pl pe_c) rfl) ⟨_, rfl, (ca_nil ⟨(IsOb.p rfl), ⟨_, _, _, _, _, _, rfl, (.slp rfl (.dat .nil)), rfl, (show List.Nodup [0] from by decide), R_law_take_od r_5.2 (p_many - 1), fun r_6 => ⟨_, _, rfl, rfl, (fin_ok rfl (ce_pure (pe_var rfl) ⟨_, _, rfl, rfl, (fin_of eI (o_modT _ _) (fun v_7 => ⟨_, rfl, (ca_dat (ce_bin (ce_callN (ca_sl (IsOb.p rfl) (ca_dat (ce_pure pe_c ⟨_, rfl, (ca_nil ⟨(IsOb.p rfl), ⟨_, _, _, _, _, _, rfl, (.slp rfl (.dat .nil)), rfl, (show List.Nodup [0] from by decide), R_law_take_od r_6.2 121, fun r_8 => (ce_pure pe_c ⟨_, _, rfl, rfl, (fin_ok rfl ⟨_, rfl, (ca_nil ⟨[(eI r_5.1), (eI v_7), (eI (r_8.1 - 60))], rfl, leB rfl, ⟨_, (r_5.1, v_7, (r_8.1 - 60)), _, _, rfl, (.m rfl rfl), rfl, ⟨_, rfl, (.keep (.keep (.keep (.drop (.drop .nil)))))⟩⟩⟩)⟩)⟩)⟩⟩)⟩))))))⟩))⟩))⟩⟩⟩)⟩))))))))⟩))))⟩)⟩⟩)⟩)))))))) (fun s_9 => (cb_frz rfl (cb_ret (ce_pure (pe_cb (pla_cons (PL.plr (PE1.pl (pe_var rfl))) pla_nil) rfl) ⟨_, rfl, rfl, ⟨rfl, trivial⟩⟩)))) rfl (.keep (.keep (.keep (.drop (.drop .nil))))))⟩)⟩)⟩⟩⟩)⟩))))))))))⟩)⟩))))
theorem R_law_sizes_od (p_pool_here : (List Int)) (p_book : (Int × Int × (Int × Int × Int × Int) × (List (Int × Int × Int)))) : RFn F__law_sizes [.ob (O.lst (List.map eI p_pool_here)), .dat ((eT4 eI eI (eT1 (eT4 eI eI eI eI)) (eV (eT3 eI eI eI))) p_book)] (T_law_sizes p_pool_here p_book) (fun (r : ((List D) × (List Int))) => SV.dat ((eL eD) r.1)) (fun (r : ((List D) × (List Int))) => [(O.lst (List.map eI r.2))]) := by
  unfold T_law_sizes F__law_sizes b__law_sizes
  exact rf_fnA ([some (.par 0 (O.lst (List.map eI p_pool_here))), some (.dat ((eT4 eI eI (eT1 (eT4 eI eI eI eI)) (eV (eT3 eI eI eI))) p_book)), none, none, none, none, none, none, none] : AS) [0] (np_o (np_d np_n)) rfl rfl
    (cb_seq (cb_asg (ce_pure (pe_var rfl) ⟨_, rfl, (cg_tp rfl (cgs_cons (cg_nm (cgs_cons (cg_nm (cgs_cons (cg_nm (cgs_cons (cg_nm (cgs_nil (cb_at ([some (.par 0 (O.lst (List.map eI p_pool_here))), some (.dat ((eT4 eI eI (eT1 (eT4 eI eI eI eI)) (eV (eT3 eI eI eI))) p_book)), some (.dat (eI p_book.1)), some (.dat (eI p_book.2.1)), some (.dat ((eT1 (eT4 eI eI eI eI)) p_book.2.2.1)), some (.dat ((eV (eT3 eI eI eI)) p_book.2.2.2)), none, none, none] : AS) rfl (cb_seq (cb_set (ce_cb (ca_dat (ce_lc (eT4 eI eI eI eI) (tgin_nm (by decide)) (ci_r1 (ca_pure (pa_cons pe_c pa_nil) ⟨_, _, rfl, rfl, fun xs_1 => ⟨Int, (List Int), eI, (fun (s : (List Int)) => ([some (.par 0 (O.lst (List.map eI s))), some (.dat ((eT4 eI eI (eT1 (eT4 eI eI eI eI)) (eV (eT3 eI eI eI))) p_book)), some (.dat (eI p_book.1)), some (.dat (eI p_book.2.1)), some (.dat ((eT1 (eT4 eI eI eI eI)) p_book.2.2.1)), some (.dat ((eV (eT3 eI eI eI)) p_book.2.2.2)), none, none, none] : AS)), _, _, _, _, rfl, (.keep (.keep (.keep (.keep (.keep (.keep (.drop (.drop (.drop .nil))))))))), (hvs_cons (fun _ => rfl) hvs_nil), rfl, fun x_2 s_3 => (cg_nm (ct_pure pt_yes ⟨fun _ => (ce_tup (ca_dat (ce_pure pe_c ⟨_, rfl, (ca_dat (ce_pure (pe_bin (PE1.pl (pe_var rfl)) (PE1.pl pe_c) rfl) ⟨_, rfl, (ca_dat (ce_bin (ce_pure pe_c (ce_callN (ca_sl (IsOb.p rfl) (ca_dat (ce_pure (pe_var rfl) ⟨_, rfl, (ca_nil ⟨(IsOb.p rfl), ⟨_, _, _, _, _, _, rfl, (.slp rfl (.dat .nil)), rfl, (show List.Nodup [0] from by decide), R_law_take_od s_3 p_book.1, fun r_4 => ⟨_, _, rfl, rfl, (fin_ok rfl ⟨_, rfl, (ca_dat (ce_pure (pe_var rfl) ⟨_, rfl, (ca_nil ⟨[(eI 0), (eI (x_2 + 1)), (eI (1 + r_4.1)), (eI p_book.1)], rfl, leB rfl, ⟨_, _, rfl, rfl, (.keep (.keep (.keep (.keep (.keep (.keep (.drop (.drop (.drop .nil)))))))))⟩⟩)⟩))⟩)⟩⟩⟩)⟩)))))))⟩))⟩))), fun h => nomatch h⟩)), fun ys_14 s_15 => ⟨_, rfl, (ca_nil ⟨_, (.cons rfl .nil), (fin_ok rfl (.inl ⟨_, rfl, (cb_seq (cb_setP (eL eD) (pe_lst (pa_cons (pe_tup (pa_cons (pe_tup (pa_cons (pe_var rfl) (pa_cons pe_c (pa_cons (pe_sl (PL.plr (PE1.pl (pe_var rfl))) po_none (po_some pe_c) (o_slV (eT4 eI eI eI eI) ys_14 _ _)) (pa_cons (pe_var rfl) pa_nil)))) (leB rfl)) (pa_cons pe_c pa_nil)) (leB rfl)) (pa_cons (pe_tup (pa_cons (pe_tup (pa_cons (pe_var rfl) (pa_cons pe_c (pa_cons (pe_var rfl) (pa_cons (pe_var rfl) pa_nil)))) (leB rfl)) (pa_cons pe_c pa_nil)) (leB rfl)) (pa_cons (pe_tup (pa_cons (pe_tup (pa_cons (pe_var rfl) (pa_cons pe_c (pa_cons (pe_var rfl) (pa_cons (pe_var rfl) pa_nil)))) (leB rfl)) (pa_cons pe_c pa_nil)) (leB rfl)) pa_nil))) (leB rfl)) (fun some_6 => (cb_seq (cb_set (ce_bin (ce_pure (pe_var rfl) (ce_pure (pe_lst (pa_cons (pe_tup (pa_cons (pe_tup (pa_cons (pe_var rfl) (pa_cons pe_c (pa_cons (pe_var rfl) (pa_cons (pe_var rfl) pa_nil)))) (leB rfl)) (pa_cons pe_c pa_nil)) (leB rfl)) (pa_cons (pe_tup (pa_cons (pe_tup (pa_cons (pe_var rfl) (pa_cons pe_c (pa_cons (pe_tup pa_nil (leB rfl)) (pa_cons (pe_tup pa_nil (leB rfl)) pa_nil)))) (leB rfl)) (pa_cons pe_c pa_nil)) (leB rfl)) (pa_cons (pe_tup (pa_cons (pe_tup (pa_cons (pe_var rfl) (pa_cons (pe_neg pe_c) (pa_cons (pe_tup pa_nil (leB rfl)) (pa_cons (pe_tup pa_nil (leB rfl)) pa_nil)))) (leB rfl)) (pa_cons pe_c pa_nil)) (leB rfl)) pa_nil))) (leB rfl)) ⟨_, _, rfl, rfl, (fin_of (eL eD) (o_catL eD some_6 [((eT2 (eT4 eI eI (eT1 (eT4 eI eI eI eI)) (eV (eT3 eI eI eI))) eB) ((p_book.1, 11, p_book.2.2.1, p_book.2.2.2), false)), ((eT2 (eT4 eI eI eT0 eT0) eB) ((p_book.1, 0, (), ()), false)), ((eT2 (eT4 eI eI eT0 eT0) eB) ((p_book.1, (-1), (), ()), false))]) (fun v_7 => (.inl ⟨_, rfl, (cb_seq (cb_set (ce_bin (ce_pure (pe_var rfl) (ce_pure (pe_lst (pa_cons (pe_tup (pa_cons (pe_tup (pa_cons (pe_var rfl) (pa_cons pe_c (pa_cons (pe_tup pa_nil (leB rfl)) (pa_cons (pe_tup pa_nil (leB rfl)) pa_nil)))) (leB rfl)) (pa_cons pe_c pa_nil)) (leB rfl)) (pa_cons (pe_tup (pa_cons (pe_tup (pa_cons pe_c (pa_cons (pe_var rfl) (pa_cons (pe_var rfl) (pa_cons (pe_var rfl) pa_nil)))) (leB rfl)) (pa_cons pe_c pa_nil)) (leB rfl)) (pa_cons (pe_tup (pa_cons (pe_tup (pa_cons pe_c (pa_cons (pe_var rfl) (pa_cons (pe_var rfl) (pa_cons (pe_var rfl) pa_nil)))) (leB rfl)) (pa_cons pe_c pa_nil)) (leB rfl)) pa_nil))) (leB rfl)) ⟨_, _, rfl, rfl, (fin_of (eL eD) (o_catL eD v_7 [((eT2 (eT4 eI eI eT0 eT0) eB) ((p_book.1, 1, (), ()), true)), ((eT2 (eT4 eI eI (eT1 (eT4 eI eI eI eI)) (eV (eT3 eI eI eI))) eB) ((60, p_book.2.1, p_book.2.2.1, p_book.2.2.2), true)), ((eT2 (eT4 eI eI (eT1 (eT4 eI eI eI eI)) (eV (eT3 eI eI eI))) eB) ((61, p_book.2.1, p_book.2.2.1, p_book.2.2.2), false))]) (fun v_8 => (.inl ⟨_, rfl, (cb_seq (cb_set (ce_bin (ce_pure (pe_var rfl) (ce_pure (pe_lst (pa_cons (pe_tup (pa_cons (pe_tup (pa_cons pe_c (pa_cons (pe_var rfl) (pa_cons (pe_tup pa_nil (leB rfl)) (pa_cons (pe_var rfl) pa_nil)))) (leB rfl)) (pa_cons pe_c pa_nil)) (leB rfl)) (pa_cons (pe_tup (pa_cons (pe_tup (pa_cons pe_c (pa_cons (pe_var rfl) (pa_cons (pe_tup pa_nil (leB rfl)) (pa_cons (pe_var rfl) pa_nil)))) (leB rfl)) (pa_cons pe_c pa_nil)) (leB rfl)) (pa_cons (pe_tup (pa_cons (pe_tup (pa_cons (pe_neg pe_c) (pa_cons (pe_var rfl) (pa_cons (pe_tup pa_nil (leB rfl)) (pa_cons (pe_var rfl) pa_nil)))) (leB rfl)) (pa_cons pe_c pa_nil)) (leB rfl)) pa_nil))) (leB rfl)) ⟨_, _, rfl, rfl, (fin_of (eL eD) (o_catL eD v_8 [((eT2 (eT4 eI eI eT0 (eV (eT3 eI eI eI))) eB) ((0, p_book.2.1, (), p_book.2.2.2), false)), ((eT2 (eT4 eI eI eT0 (eV (eT3 eI eI eI))) eB) ((1, p_book.2.1, (), p_book.2.2.2), true)), ((eT2 (eT4 eI eI eT0 (eV (eT3 eI eI eI))) eB) (((-1), p_book.2.1, (), p_book.2.2.2), false))]) (fun v_9 => (.inl ⟨_, rfl, (cb_seq (cb_set (ce_bin (ce_pure (pe_var rfl) (ce_lst (ca_dat (ce_pure (pe_tup (pa_cons (pe_tup (pa_cons (pe_bin (PE1.pl pe_c) (PE1.pl pe_c) rfl) (pa_cons (pe_var rfl) (pa_cons (pe_tup pa_nil (leB rfl)) (pa_cons (pe_var rfl) pa_nil)))) (leB rfl)) (pa_cons pe_c pa_nil)) (leB rfl)) ⟨_, rfl, (ca_dat (ce_tup (ca_dat (ce_tup (ca_dat (ce_pure (pe_var rfl) ⟨_, rfl, (ca_dat (ce_pure (pe_var rfl) ⟨_, rfl, (ca_dat (ce_pure (pe_tup pa_nil (leB rfl)) ⟨_, rfl, (ca_dat (ce_sl (ce_bin (ce_pure (pe_var rfl) (ce_pure pe_c ⟨_, _, rfl, rfl, (fin_of (eV (eT3 eI eI eI)) (o_repV (eT3 eI eI eI) p_book.2.2.2 30) (fun v_10 => ⟨_, _, _, po_none, (po_some pe_c), rfl, (fin_ok (o_slV (eT3 eI eI eI) v_10 _ _) ⟨_, rfl, (ca_nil ⟨[(eI p_book.1), (eI p_book.2.1), (eT0 ()), ((eV (eT3 eI eI eI)) (cutD v_10 none (some 30)))], rfl, leB rfl, ⟨_, rfl, (ca_dat (ce_pure pe_c ⟨_, rfl, (ca_nil ⟨[((eT4 eI eI eT0 (eV (eT3 eI eI eI))) (p_book.1, p_book.2.1, (), (cutD v_10 none (some 30)))), (eB true)], rfl, leB rfl, ⟨_, rfl, (ca_nil ⟨[((eT2 (eT4 eI eI eT0 (eV (eT3 eI eI eI))) eB) ((((10 : Int) ^ 30), p_book.2.1, (), p_book.2.2.2), false)), ((eT2 (eT4 eI eI eT0 (eV (eT3 eI eI eI))) eB) ((p_book.1, p_book.2.1, (), (cutD v_10 none (some 30))), true))], rfl, leB rfl, ⟨_, _, rfl, rfl, (fin_of (eL eD) (o_catL eD v_9 [((eT2 (eT4 eI eI eT0 (eV (eT3 eI eI eI))) eB) ((((10 : Int) ^ 30), p_book.2.1, (), p_book.2.2.2), false)), ((eT2 (eT4 eI eI eT0 (eV (eT3 eI eI eI))) eB) ((p_book.1, p_book.2.1, (), (cutD v_10 none (some 30))), true))]) (fun v_11 => (.inl ⟨_, rfl, (cb_ret (ce_bin (ce_pure (pe_var rfl) (ce_lst (ca_dat (ce_tup (ca_dat (ce_tup (ca_dat (ce_pure (pe_var rfl) ⟨_, rfl, (ca_dat (ce_pure (pe_var rfl) ⟨_, rfl, (ca_dat (ce_pure (pe_tup pa_nil (leB rfl)) ⟨_, rfl, (ca_dat (ce_sl (ce_bin (ce_pure (pe_var rfl) (ce_pure pe_c ⟨_, _, rfl, rfl, (fin_of (eV (eT3 eI eI eI)) (o_repV (eT3 eI eI eI) p_book.2.2.2 31) (fun v_12 => ⟨_, _, _, po_none, (po_some pe_c), rfl, (fin_ok (o_slV (eT3 eI eI eI) v_12 _ _) ⟨_, rfl, (ca_nil ⟨[(eI p_book.1), (eI p_book.2.1), (eT0 ()), ((eV (eT3 eI eI eI)) (cutD v_12 none (some 31)))], rfl, leB rfl, ⟨_, rfl, (ca_dat (ce_pure pe_c ⟨_, rfl, (ca_nil ⟨[((eT4 eI eI eT0 (eV (eT3 eI eI eI))) (p_book.1, p_book.2.1, (), (cutD v_12 none (some 31)))), (eB false)], rfl, leB rfl, ⟨_, rfl, (ca_dat (ce_pure (pe_tup (pa_cons (pe_tup (pa_cons (pe_var rfl) (pa_cons (pe_var rfl) (pa_cons (pe_tup pa_nil (leB rfl)) (pa_cons (pe_tup pa_nil (leB rfl)) pa_nil)))) (leB rfl)) (pa_cons pe_c pa_nil)) (leB rfl)) ⟨_, rfl, (ca_nil ⟨[((eT2 (eT4 eI eI eT0 (eV (eT3 eI eI eI))) eB) ((p_book.1, p_book.2.1, (), (cutD v_12 none (some 31))), false)), ((eT2 (eT4 eI eI eT0 eT0) eB) ((p_book.1, p_book.2.1, (), ()), true))], rfl, leB rfl, ⟨_, _, rfl, rfl, (fin_of (eL eD) (o_catL eD v_11 [((eT2 (eT4 eI eI eT0 (eV (eT3 eI eI eI))) eB) ((p_book.1, p_book.2.1, (), (cutD v_12 none (some 31))), false)), ((eT2 (eT4 eI eI eT0 eT0) eB) ((p_book.1, p_book.2.1, (), ()), true))]) (fun v_13 => ⟨_, rfl, rfl, ⟨rfl, trivial⟩⟩))⟩⟩)⟩))⟩⟩)⟩))⟩⟩)⟩)⟩))⟩)))))⟩))⟩))⟩))))))))))⟩)))⟩⟩)⟩⟩)⟩))⟩⟩)⟩)⟩))⟩)))))⟩))⟩))⟩))))))⟩)))))))⟩)))⟩)))))⟩)))⟩)))))⟩)))⟩))))))))⟩))⟩)⟩⟩⟩))))))))))))))))))⟩)))
theorem R_law_of_spans_od (p_pool_here : (List Int)) (p_book : (Int × Int × (Int × Int × Int × Int) × (List (Int × Int × Int)))) : RFn F__law_of_spans [.ob (O.lst (List.map eI p_pool_here)), .dat ((eT4 eI eI (eT1 (eT4 eI eI eI eI)) (eV (eT3 eI eI eI))) p_book)] (T_law_of_spans p_pool_here p_book) (fun (r : ((List D) × (List Int))) => SV.dat ((eL eD) r.1)) (fun (r : ((List D) × (List Int))) => [(O.lst (List.map eI r.2))]) := by
  unfold T_law_of_spans F__law_of_spans b__law_of_spans
  exact rf_fnA ([some (.par 0 (O.lst (List.map eI p_pool_here))), some (.dat ((eT4 eI eI (eT1 (eT4 eI eI eI eI)) (eV (eT3 eI eI eI))) p_book)), none, none, none, none, none, none, none, none, none, none, none, none] : AS) [0] (np_o (np_d np_n)) rfl rfl
    (cb_seq (cb_asg (ce_pure (pe_var rfl) ⟨_, rfl, (cg_tp rfl (cgs_cons (cg_nm (cgs_cons (cg_nm (cgs_cons (cg_nm (cgs_cons (cg_nm (cgs_nil (cb_at ([some (.par 0 (O.lst (List.map eI p_pool_here))), some (.dat ((eT4 eI eI (eT1 (eT4 eI eI eI eI)) (eV (eT3 eI eI eI))) p_book)), some (.dat (eI p_book.1)), some (.dat (eI p_book.2.1)), some (.dat ((eT1 (eT4 eI eI eI eI)) p_book.2.2.1)), some (.dat ((eV (eT3 eI eI eI)) p_book.2.2.2)), none, none, none, none, none, none, none, none] : AS) rfl (cb_seq (cb_asg (ce_pure (pe_ix (PL.plr (PE1.pl (pe_var rfl))) (PE1.pl pe_c) rfl) ⟨_, rfl, (cg_tp rfl (cgs_cons (cg_nm (cgs_cons (cg_nm (cgs_cons (cg_nm (cgs_cons (cg_nm (cgs_nil (cb_at ([some (.par 0 (O.lst (List.map eI p_pool_here))), some (.dat ((eT4 eI eI (eT1 (eT4 eI eI eI eI)) (eV (eT3 eI eI eI))) p_book)), some (.dat (eI p_book.1)), some (.dat (eI p_book.2.1)), some (.dat ((eT1 (eT4 eI eI eI eI)) p_book.2.2.1)), some (.dat ((eV (eT3 eI eI eI)) p_book.2.2.2)), some (.dat (eI p_book.2.2.1.1)), some (.dat (eI p_book.2.2.1.2.1)), some (.dat (eI p_book.2.2.1.2.2.1)), some (.dat (eI p_book.2.2.1.2.2.2)), none, none, none, none] : AS) rfl (cb_seq (cb_set (ce_bin (ce_bin (ce_pure (pe_bin (PE1.pl (pe_var rfl)) (PE1.pl pe_c) rfl) (ce_callN (ca_sl (IsOb.p rfl) (ca_dat (ce_pure (pe_bin (PE1.pl (pe_var rfl)) (PE1.pl pe_c) rfl) ⟨_, rfl, (ca_nil ⟨(IsOb.p rfl), ⟨_, _, _, _, _, _, rfl, (.slp rfl (.dat .nil)), rfl, (show List.Nodup [0] from by decide), R_law_take_od p_pool_here (p_book.2.1 - 1), fun r_1 => ⟨_, _, rfl, rfl, (fin_ok rfl (ce_pure (pe_var rfl) ⟨_, _, rfl, rfl, (fin_of eI (o_modT _ _) (fun v_2 => (.inl ⟨_, rfl, (cb_seq (cb_setP (eL eD) (pe_lst (pa_cons (pe_tup (pa_cons (pe_var rfl) (pa_cons (pe_var rfl) (pa_cons pe_c (pa_cons (pe_var rfl) pa_nil)))) (leB rfl)) (pa_cons (pe_tup (pa_cons (pe_var rfl) (pa_cons (pe_var rfl) (pa_cons (pe_var rfl) (pa_cons (pe_var rfl) pa_nil)))) (leB rfl)) (pa_cons (pe_tup (pa_cons (pe_var rfl) (pa_cons (pe_var rfl) (pa_cons pe_c (pa_cons pe_c pa_nil)))) (leB rfl)) (pa_cons (pe_tup (pa_cons (pe_var rfl) (pa_cons (pe_var rfl) (pa_cons (pe_var rfl) (pa_cons (pe_var rfl) pa_nil)))) (leB rfl)) pa_nil)))) (leB rfl)) (fun some_3 => (cb_seq (cb_set (ce_lc eD (tgin_nm (by decide)) (ci_seq (ce_pure (pe_var rfl) ⟨_, .inl rfl, ⟨D, Unit, eD, (fun (s : Unit) => ([some (.par 0 (O.lst (List.map eI r_1.2))), some (.dat ((eT4 eI eI (eT1 (eT4 eI eI eI eI)) (eV (eT3 eI eI eI))) p_book)), some (.dat (eI p_book.1)), some (.dat (eI p_book.2.1)), some (.dat ((eT1 (eT4 eI eI eI eI)) p_book.2.2.1)), some (.dat ((eV (eT3 eI eI eI)) p_book.2.2.2)), some (.dat (eI p_book.2.2.1.1)), some (.dat (eI p_book.2.2.1.2.1)), some (.dat (eI p_book.2.2.1.2.2.1)), some (.dat (eI p_book.2.2.1.2.2.2)), some (.dat (eI v_2)), some (.dat ((eL eD) some_3)), none, none] : AS)), _, _, _, _, rfl, (.keep (.keep (.keep (.keep (.keep (.keep (.keep (.keep (.keep (.keep (.keep (.keep (.drop (.drop .nil)))))))))))))), (hvs_cons (fun _ => rfl) hvs_nil), rfl, fun x_4 s_5 => (cg_nm (ct_pure pt_yes ⟨fun _ => (ce_pure (pe_tup (pa_cons (pe_tup (pa_cons (pe_var rfl) (pa_cons (pe_var rfl) (pa_cons (pe_tup (pa_cons (pe_var rfl) pa_nil) (leB rfl)) (pa_cons (pe_var rfl) pa_nil)))) (leB rfl)) (pa_cons pe_c pa_nil)) (leB rfl)) ⟨_, _, rfl, rfl, (.keep (.keep (.keep (.keep (.keep (.keep (.keep (.keep (.keep (.keep (.keep (.keep (.drop (.drop .nil))))))))))))))⟩), fun h => nomatch h⟩)), fun ys_16 s_17 => (.inl ⟨_, rfl, (cb_seq (cb_set (ce_lstM (ca_pure (pa_cons (pe_tup (pa_cons (pe_var rfl) (pa_cons (pe_var rfl) (pa_cons pe_c (pa_cons pe_c pa_nil)))) (leB rfl)) (pa_cons (pe_tup (pa_cons (pe_neg pe_c) (pa_cons (pe_var rfl) (pa_cons pe_c (pa_cons pe_c pa_nil)))) (leB rfl)) (pa_cons (pe_tup (pa_cons (pe_bin (PE1.pl (pe_var rfl)) (PE1.pl (pe_var rfl)) rfl) (pa_cons (pe_var rfl) (pa_cons pe_c (pa_cons pe_c pa_nil)))) (leB rfl)) (pa_cons (pe_tup (pa_cons (pe_var rfl) (pa_cons (pe_var rfl) (pa_cons pe_c (pa_cons pe_c pa_nil)))) (leB rfl)) (pa_cons (pe_tup (pa_cons pe_c (pa_cons pe_c (pa_cons pe_c (pa_cons pe_c pa_nil)))) (leB rfl)) pa_nil))))) ⟨[((eT4 eI eI eI eI) (p_book.2.1, p_book.2.2.1.2.1, 1, 1)), ((eT4 eI eI eI eI) ((-1), p_book.2.2.1.2.1, 1, 1)), ((eT4 eI eI eI eI) ((p_book.2.2.1.2.1 - p_book.2.1), p_book.2.2.1.2.1, 1, 1)), ((eT4 eI eI eI eI) (v_2, p_book.2.1, 1, 1)), ((eT4 eI eI eI eI) (0, 0, 1, 1))], rfl, leB rfl, (.inr ⟨_, rfl, (cb_seq (cb_set (ce_catM (eT4 eI eI eI eI) (ce_mut rfl (ce_pure (pe_lst (pa_cons (pe_tup (pa_cons (pe_var rfl) (pa_cons pe_c (pa_cons pe_c (pa_cons pe_c pa_nil)))) (leB rfl)) (pa_cons (pe_tup (pa_cons (pe_var rfl) (pa_cons (pe_neg pe_c) (pa_cons pe_c (pa_cons pe_c pa_nil)))) (leB rfl)) (pa_cons (pe_tup (pa_cons (pe_var rfl) (pa_cons (pe_bin (PE1.pl (pe_var rfl)) (PE1.pl (pe_var rfl)) rfl) (pa_cons pe_c (pa_cons pe_c pa_nil)))) (leB rfl)) (pa_cons (pe_tup (pa_cons (pe_var rfl) (pa_cons (pe_var rfl) (pa_cons pe_c (pa_cons pe_c pa_nil)))) (leB rfl)) pa_nil)))) (leB rfl)) ⟨[(p_book.2.1, p_book.2.2.1.2.1, 1, 1), ((-1), p_book.2.2.1.2.1, 1, 1), ((p_book.2.2.1.2.1 - p_book.2.1), p_book.2.2.1.2.1, 1, 1), (v_2, p_book.2.1, 1, 1), (0, 0, 1, 1)], [(p_book.2.2.1.2.1, 0, 1, 1), (p_book.2.2.1.1, (-1), 1, 1), (p_book.2.2.1.1, (p_book.2.2.1.2.1 - p_book.2.1), 1, 1), (p_book.2.2.1.2.1, p_book.2.2.1.2.1, 1, 1)], _, ⟨_, .inl rfl, rfl⟩, rfl, rfl, fun v_7 => (.inr ⟨_, rfl, (cb_seq (cb_set (ce_catM (eT4 eI eI eI eI) (ce_mut rfl (ce_pure (pe_lst (pa_cons (pe_tup (pa_cons (pe_var rfl) (pa_cons (pe_var rfl) (pa_cons pe_c (pa_cons (pe_var rfl) pa_nil)))) (leB rfl)) (pa_cons (pe_tup (pa_cons (pe_var rfl) (pa_cons (pe_var rfl) (pa_cons pe_c (pa_cons (pe_bin (PE1.pl (pe_var rfl)) (PE1.pl pe_c) rfl) pa_nil)))) (leB rfl)) (pa_cons (pe_tup (pa_cons (pe_var rfl) (pa_cons (pe_var rfl) (pa_cons (pe_bin (PE1.pl (pe_var rfl)) (PE1.pl pe_c) rfl) (pa_cons (pe_var rfl) pa_nil)))) (leB rfl)) pa_nil))) (leB rfl)) ⟨v_7, [(p_book.2.2.1.1, p_book.2.2.1.2.1, 0, p_book.1), (p_book.2.2.1.1, p_book.2.2.1.2.1, 1, (p_book.1 + 1)), (p_book.2.2.1.1, p_book.2.2.1.2.1, (p_book.2.2.1.2.2.2 + 1), p_book.2.2.1.2.2.2)], _, ⟨_, .inl rfl, rfl⟩, rfl, rfl, fun v_8 => (.inr ⟨_, rfl, (cb_seq (cb_app (eT4 eI eI eI eI) (.m rfl rfl) (ce_pure (pe_tup (pa_cons (pe_var rfl) (pa_cons (pe_var rfl) (pa_cons (pe_neg pe_c) (pa_cons pe_c pa_nil)))) (leB rfl)) ⟨_, (p_book.2.2.1.1, p_book.2.2.1.2.1, (-1), 1), _, _, rfl, (.m rfl rfl), rfl, (cb_seq (cb_set (ce_catM (eT4 eI eI eI eI) (ce_mut rfl (ce_pure (pe_lst (pa_cons (pe_tup (pa_cons (pe_var rfl) (pa_cons (pe_var rfl) (pa_cons pe_c (pa_cons pe_c pa_nil)))) (leB rfl)) (pa_cons (pe_tup (pa_cons (pe_var rfl) (pa_cons (pe_var rfl) (pa_cons pe_c (pa_cons pe_c pa_nil)))) (leB rfl)) (pa_cons (pe_tup (pa_cons (pe_var rfl) (pa_cons (pe_var rfl) (pa_cons (pe_bin (PE1.pl (pe_var rfl)) (PE1.pl pe_c) rfl) (pa_cons (pe_bin (PE1.pl (pe_var rfl)) (PE1.pl pe_c) rfl) pa_nil)))) (leB rfl)) pa_nil))) (leB rfl)) ⟨(v_8 ++ [(p_book.2.2.1.1, p_book.2.2.1.2.1, (-1), 1)]), [(p_book.2.2.1.1, p_book.2.2.1.2.1, 1, 0), (p_book.2.2.1.1, p_book.2.2.1.2.1, 0, 0), (p_book.2.2.1.1, p_book.2.2.1.2.1, (p_book.1 + 1), (p_book.1 + 1))], _, ⟨_, .inl rfl, rfl⟩, rfl, rfl, fun v_9 => (.inr ⟨_, rfl, (cb_frz rfl (cb_ret (ce_bin (ce_pure (pe_var rfl) (ce_lc eD (tgin_nm (by decide)) (ci_seq (ce_pure (pe_var rfl) ⟨_, .inl rfl, ⟨(Int × Int × Int × Int), Unit, (eT4 eI eI eI eI), (fun (s : Unit) => ([some (.par 0 (O.lst (List.map eI r_1.2))), some (.dat ((eT4 eI eI (eT1 (eT4 eI eI eI eI)) (eV (eT3 eI eI eI))) p_book)), some (.dat (eI p_book.1)), some (.dat (eI p_book.2.1)), some (.dat ((eT1 (eT4 eI eI eI eI)) p_book.2.2.1)), some (.dat ((eV (eT3 eI eI eI)) p_book.2.2.2)), some (.dat (eI p_book.2.2.1.1)), some (.dat (eI p_book.2.2.1.2.1)), some (.dat (eI p_book.2.2.1.2.2.1)), some (.dat (eI p_book.2.2.1.2.2.2)), some (.dat (eI v_2)), some (.dat ((eL eD) ys_16)), some (.dat ((eL (eT4 eI eI eI eI)) v_9)), none] : AS)), _, _, _, _, rfl, (.keep (.keep (.keep (.keep (.keep (.keep (.keep (.keep (.keep (.keep (.keep (.keep (.keep (.drop .nil)))))))))))))), (hvs_cons (fun _ => rfl) hvs_nil), rfl, fun x_10 s_11 => (cg_nm (ct_pure pt_yes ⟨fun _ => (ce_pure (pe_tup (pa_cons (pe_tup (pa_cons (pe_var rfl) (pa_cons (pe_var rfl) (pa_cons (pe_tup (pa_cons (pe_var rfl) pa_nil) (leB rfl)) (pa_cons (pe_var rfl) pa_nil)))) (leB rfl)) (pa_cons pe_c pa_nil)) (leB rfl)) ⟨_, _, rfl, rfl, (.keep (.keep (.keep (.keep (.keep (.keep (.keep (.keep (.keep (.keep (.keep (.keep (.keep (.drop .nil))))))))))))))⟩), fun h => nomatch h⟩)), fun ys_14 s_15 => ⟨_, _, rfl, rfl, (fin_of (eL eD) (o_catL eD ys_16 ys_14) (fun v_13 => ⟨_, rfl, rfl, ⟨rfl, trivial⟩⟩))⟩⟩⟩)))))))⟩)⟩)))))⟩)))⟩)⟩)))))⟩)⟩)))))⟩)⟩))))⟩)⟩⟩))))))))⟩)))⟩))⟩⟩⟩)⟩))))))))))))))))))))⟩))))))))))))))⟩)))
theorem R_law_of_bounds_od (p_pool_here : (List Int)) (p_book : (Int × Int × (Int × Int × Int × Int) × (List (Int × Int × Int)))) : RFn F__law_of_bounds [.ob (O.lst (List.map eI p_pool_here)), .dat ((eT4 eI eI (eT1 (eT4 eI eI eI eI)) (eV (eT3 eI eI eI))) p_book)] (T_law_of_bounds p_pool_here p_book) (fun (r : ((List D) × (List Int))) => SV.dat ((eL eD) r.1)) (fun (r : ((List D) × (List Int))) => [(O.lst (List.map eI r.2))]) := by
  unfold T_law_of_bounds F__law_of_bounds b__law_of_bounds
  exact rf_fnA ([some (.par 0 (O.lst (List.map eI p_pool_here))), some (.dat ((eT4 eI eI (eT1 (eT4 eI eI eI eI)) (eV (eT3 eI eI eI))) p_book)), none, none, none, none, none, none, none, none, none, none, none] : AS) [0] (np_o (np_d np_n)) rfl rfl
    (cb_seq (cb_asg (ce_pure (pe_var rfl) ⟨_, rfl, (cg_tp rfl (cgs_cons (cg_nm (cgs_cons (cg_nm (cgs_cons (cg_nm (cgs_cons (cg_nm (cgs_nil (cb_at ([some (.par 0 (O.lst (List.map eI p_pool_here))), some (.dat ((eT4 eI eI (eT1 (eT4 eI eI eI eI)) (eV (eT3 eI eI eI))) p_book)), some (.dat (eI p_book.1)), some (.dat (eI p_book.2.1)), some (.dat ((eT1 (eT4 eI eI eI eI)) p_book.2.2.1)), some (.dat ((eV (eT3 eI eI eI)) p_book.2.2.2)), none, none, none, none, none, none, none] : AS) rfl (cb_seq (cb_asg (ce_ix (ce_pure (pe_var rfl) (ce_pure pe_c ⟨_, _, rfl, rfl, (fin_of (eT3 eI eI eI) (o_ixV (eT3 eI eI eI) p_book.2.2.2 0) (fun v_1 => ⟨_, rfl, (cg_tp rfl (cgs_cons (cg_nm (cgs_cons (cg_nm (cgs_cons (cg_nm (cgs_nil (cb_at ([some (.par 0 (O.lst (List.map eI p_pool_here))), some (.dat ((eT4 eI eI (eT1 (eT4 eI eI eI eI)) (eV (eT3 eI eI eI))) p_book)), some (.dat (eI p_book.1)), some (.dat (eI p_book.2.1)), some (.dat ((eT1 (eT4 eI eI eI eI)) p_book.2.2.1)), some (.dat ((eV (eT3 eI eI eI)) p_book.2.2.2)), some (.dat (eI v_1.1)), some (.dat (eI v_1.2.1)), some (.dat (eI v_1.2.2)), none, none, none, none] : AS) rfl (cb_seq (cb_set (ce_lst (ca_dat (ce_pure (pe_tup (pa_cons (pe_var rfl) (pa_cons (pe_var rfl) (pa_cons pe_c pa_nil))) (leB rfl)) ⟨_, rfl, (ca_dat (ce_pure (pe_tup (pa_cons (pe_var rfl) (pa_cons (pe_var rfl) (pa_cons (pe_neg pe_c) pa_nil))) (leB rfl)) ⟨_, rfl, (ca_dat (ce_pure (pe_tup (pa_cons pe_c (pa_cons (pe_bin (PE1.pl (pe_var rfl)) (PE1.pl pe_c) rfl) (pa_cons pe_c pa_nil))) (leB rfl)) ⟨_, rfl, (ca_dat (ce_tup (ca_dat (ce_pure (pe_bin (PE1.pl (pe_var rfl)) (PE1.pl pe_c) rfl) ⟨_, rfl, (ca_dat (ce_pure pe_c ⟨_, rfl, (ca_dat (ce_bin (ce_callN (ca_sl (IsOb.p rfl) (ca_dat (ce_pure pe_c ⟨_, rfl, (ca_nil ⟨(IsOb.p rfl), ⟨_, _, _, _, _, _, rfl, (.slp rfl (.dat .nil)), rfl, (show List.Nodup [0] from by decide), R_law_take_od p_pool_here 121, fun r_2 => (ce_pure pe_c ⟨_, _, rfl, rfl, (fin_ok rfl ⟨_, rfl, (ca_nil ⟨[(eI (p_book.2.1 - 1)), (eI 0), (eI (r_2.1 - 60))], rfl, leB rfl, ⟨_, rfl, (ca_nil ⟨[((eT3 eI eI eI) (v_1.1, v_1.2.1, 60)), ((eT3 eI eI eI) (v_1.1, v_1.2.1, (-60))), ((eT3 eI eI eI) (0, (p_book.2.1 - 1), 0)), ((eT3 eI eI eI) ((p_book.2.1 - 1), 0, (r_2.1 - 60)))], rfl, leB rfl, (.inl ⟨_, rfl, (cb_seq (cb_set (ce_lstM (ca_pure (pa_cons (pe_tup (pa_cons (pe_var rfl) (pa_cons (pe_var rfl) (pa_cons pe_c pa_nil))) (leB rfl)) (pa_cons (pe_tup (pa_cons (pe_var rfl) (pa_cons (pe_var rfl) (pa_cons (pe_neg pe_c) pa_nil))) (leB rfl)) (pa_cons (pe_tup (pa_cons (pe_var rfl) (pa_cons (pe_var rfl) (pa_cons (pe_var rfl) pa_nil))) (leB rfl)) (pa_cons (pe_tup (pa_cons (pe_var rfl) (pa_cons (pe_var rfl) (pa_cons (pe_var rfl) pa_nil))) (leB rfl)) (pa_cons (pe_tup (pa_cons (pe_var rfl) (pa_cons (pe_var rfl) (pa_cons (pe_var rfl) pa_nil))) (leB rfl)) pa_nil))))) ⟨[((eT3 eI eI eI) (v_1.1, v_1.2.1, 61)), ((eT3 eI eI eI) (v_1.1, v_1.2.1, (-61))), ((eT3 eI eI eI) (v_1.1, v_1.1, v_1.2.2)), ((eT3 eI eI eI) (p_book.2.1, v_1.2.1, v_1.2.2)), ((eT3 eI eI eI) (v_1.1, p_book.2.1, v_1.2.2))], rfl, leB rfl, (.inr ⟨_, rfl, (cb_seq (cb_set (ce_catM (eT3 eI eI eI) (ce_mut rfl (ce_pure (pe_lst (pa_cons (pe_tup (pa_cons (pe_neg pe_c) (pa_cons (pe_var rfl) (pa_cons (pe_var rfl) pa_nil))) (leB rfl)) (pa_cons (pe_tup (pa_cons (pe_var rfl) (pa_cons (pe_neg pe_c) (pa_cons (pe_var rfl) pa_nil))) (leB rfl)) (pa_cons (pe_tup (pa_cons (pe_bin (PE1.pl (pe_var rfl)) (PE1.pl (pe_var rfl)) rfl) (pa_cons (pe_var rfl) (pa_cons (pe_var rfl) pa_nil))) (leB rfl)) (pa_cons (pe_tup (pa_cons (pe_var rfl) (pa_cons (pe_var rfl) (pa_cons (pe_bin (PE1.pl pe_c) (PE1.pl pe_c) rfl) pa_nil))) (leB rfl)) pa_nil)))) (leB rfl)) ⟨[(v_1.1, v_1.2.1, 61), (v_1.1, v_1.2.1, (-61)), (v_1.1, v_1.1, v_1.2.2), (p_book.2.1, v_1.2.1, v_1.2.2), (v_1.1, p_book.2.1, v_1.2.2)], [((-1), v_1.2.1, v_1.2.2), (v_1.1, (-1), v_1.2.2), ((v_1.1 - p_book.2.1), v_1.2.1, v_1.2.2), (v_1.1, v_1.2.1, ((10 : Int) ^ 30))], _, ⟨_, .inl rfl, rfl⟩, rfl, rfl, fun v_3 => (.inr ⟨_, rfl, (cb_seq (cb_app (eT3 eI eI eI) (.m rfl rfl) (ce_pure (pe_tup (pa_cons pe_c (pa_cons pe_c (pa_cons pe_c pa_nil))) (leB rfl)) ⟨_, (0, 0, 0), _, _, rfl, (.m rfl rfl), rfl, (cb_frz rfl (cb_seq (cb_set (ce_lc eD (tgin_nm (by decide)) (ci_seq (ce_pure (pe_var rfl) ⟨_, .inl rfl, ⟨(Int × Int × Int), Unit, (eT3 eI eI eI), (fun (s : Unit) => ([some (.par 0 (O.lst (List.map eI r_2.2))), some (.dat ((eT4 eI eI (eT1 (eT4 eI eI eI eI)) (eV (eT3 eI eI eI))) p_book)), some (.dat (eI p_book.1)), some (.dat (eI p_book.2.1)), some (.dat ((eT1 (eT4 eI eI eI eI)) p_book.2.2.1)), some (.dat ((eV (eT3 eI eI eI)) p_book.2.2.2)), some (.dat (eI v_1.1)), some (.dat (eI v_1.2.1)), some (.dat (eI v_1.2.2)), some (.dat ((eL (eT3 eI eI eI)) [(v_1.1, v_1.2.1, 60), (v_1.1, v_1.2.1, (-60)), (0, (p_book.2.1 - 1), 0), ((p_book.2.1 - 1), 0, (r_2.1 - 60))])), some (.dat ((eL (eT3 eI eI eI)) (v_3 ++ [(0, 0, 0)]))), none, none] : AS)), _, _, _, _, rfl, (.keep (.keep (.keep (.keep (.keep (.keep (.keep (.keep (.keep (.keep (.keep (.drop (.drop .nil))))))))))))), (hvs_cons (fun _ => rfl) hvs_nil), rfl, fun x_4 s_5 => (cg_nm (ct_pure pt_yes ⟨fun _ => (ce_tup (ca_dat (ce_tup (ca_dat (ce_pure (pe_var rfl) ⟨_, rfl, (ca_dat (ce_pure (pe_var rfl) ⟨_, rfl, (ca_dat (ce_pure (pe_var rfl) ⟨_, rfl, (ca_dat (ce_bin (ce_pure (pe_sl (PL.plr (PE1.pl (pe_var rfl))) (po_some pe_c) po_none (o_slV (eT3 eI eI eI) p_book.2.2.2 _ _)) (ce_pure (pe_tup (pa_cons (pe_var rfl) pa_nil) (leB rfl)) ⟨_, _, rfl, rfl, (fin_of (eV (eT3 eI eI eI)) (o_catV (eT3 eI eI eI) (cutD p_book.2.2.2 (some 1) none) [x_4]) (fun v_6 => ⟨_, rfl, (ca_nil ⟨[(eI p_book.1), (eI p_book.2.1), ((eT1 (eT4 eI eI eI eI)) p_book.2.2.1), ((eV (eT3 eI eI eI)) v_6)], rfl, leB rfl, ⟨_, rfl, (ca_dat (ce_pure pe_c ⟨_, rfl, (ca_nil ⟨[((eT4 eI eI (eT1 (eT4 eI eI eI eI)) (eV (eT3 eI eI eI))) (p_book.1, p_book.2.1, p_book.2.2.1, v_6)), (eB true)], rfl, leB rfl, ⟨_, _, rfl, rfl, (.keep (.keep (.keep (.keep (.keep (.keep (.keep (.keep (.keep (.keep (.keep (.drop (.drop .nil)))))))))))))⟩⟩)⟩))⟩⟩)⟩))⟩))))⟩))⟩))⟩))))), fun h => nomatch h⟩)), fun ys_15 s_16 => (.inl ⟨_, rfl, (cb_ret (ce_bin (ce_pure (pe_var rfl) (ce_lc eD (tgin_nm (by decide)) (ci_seq (ce_pure (pe_var rfl) ⟨_, .inl rfl, ⟨(Int × Int × Int), Unit, (eT3 eI eI eI), (fun (s : Unit) => ([some (.par 0 (O.lst (List.map eI r_2.2))), some (.dat ((eT4 eI eI (eT1 (eT4 eI eI eI eI)) (eV (eT3 eI eI eI))) p_book)), some (.dat (eI p_book.1)), some (.dat (eI p_book.2.1)), some (.dat ((eT1 (eT4 eI eI eI eI)) p_book.2.2.1)), some (.dat ((eV (eT3 eI eI eI)) p_book.2.2.2)), some (.dat (eI v_1.1)), some (.dat (eI v_1.2.1)), some (.dat (eI v_1.2.2)), some (.dat ((eL (eT3 eI eI eI)) [(v_1.1, v_1.2.1, 60), (v_1.1, v_1.2.1, (-60)), (0, (p_book.2.1 - 1), 0), ((p_book.2.1 - 1), 0, (r_2.1 - 60))])), some (.dat ((eL (eT3 eI eI eI)) (v_3 ++ [(0, 0, 0)]))), some (.dat ((eL eD) ys_15)), none] : AS)), _, _, _, _, rfl, (.keep (.keep (.keep (.keep (.keep (.keep (.keep (.keep (.keep (.keep (.keep (.keep (.drop .nil))))))))))))), (hvs_cons (fun _ => rfl) hvs_nil), rfl, fun x_8 s_9 => (cg_nm (ct_pure pt_yes ⟨fun _ => (ce_tup (ca_dat (ce_tup (ca_dat (ce_pure (pe_var rfl) ⟨_, rfl, (ca_dat (ce_pure (pe_var rfl) ⟨_, rfl, (ca_dat (ce_pure (pe_var rfl) ⟨_, rfl, (ca_dat (ce_bin (ce_pure (pe_tup (pa_cons (pe_var rfl) pa_nil) (leB rfl)) (ce_pure (pe_sl (PL.plr (PE1.pl (pe_var rfl))) (po_some pe_c) po_none (o_slV (eT3 eI eI eI) p_book.2.2.2 _ _)) ⟨_, _, rfl, rfl, (fin_of (eV (eT3 eI eI eI)) (o_catV (eT3 eI eI eI) [x_8] (cutD p_book.2.2.2 (some 1) none)) (fun v_10 => ⟨_, rfl, (ca_nil ⟨[(eI p_book.1), (eI p_book.2.1), ((eT1 (eT4 eI eI eI eI)) p_book.2.2.1), ((eV (eT3 eI eI eI)) v_10)], rfl, leB rfl, ⟨_, rfl, (ca_dat (ce_pure pe_c ⟨_, rfl, (ca_nil ⟨[((eT4 eI eI (eT1 (eT4 eI eI eI eI)) (eV (eT3 eI eI eI))) (p_book.1, p_book.2.1, p_book.2.2.1, v_10)), (eB false)], rfl, leB rfl, ⟨_, _, rfl, rfl, (.keep (.keep (.keep (.keep (.keep (.keep (.keep (.keep (.keep (.keep (.keep (.keep (.drop .nil)))))))))))))⟩⟩)⟩))⟩⟩)⟩))⟩))))⟩))⟩))⟩))))), fun h => nomatch h⟩)), fun ys_13 s_14 => ⟨_, _, rfl, rfl, (fin_of (eL eD) (o_catL eD ys_15 ys_13) (fun v_12 => ⟨_, rfl, rfl, ⟨rfl, trivial⟩⟩))⟩⟩⟩))))))⟩)⟩⟩))))))⟩)))⟩)⟩)))))⟩)⟩))))⟩)⟩)⟩⟩)⟩)⟩)⟩⟩)⟩))))))⟩))⟩))))⟩))⟩))⟩))))))))))))))⟩))⟩))))))))))))))))⟩)))
theorem R_is_span_ddd (p_thing : D) (p_end : D) (p_many : D) : RFn F_is_span [.dat (eD p_thing), .dat (eD p_end), .dat (eD p_many)] (T_is_span p_thing p_end p_many) (fun (r : Bool) => SV.dat (eB r)) (fun (r : Bool) => []) := by
  unfold T_is_span F_is_span b_is_span
  exact rf_fnA ([some (.dat (eD p_thing)), some (.dat (eD p_end)), some (.dat (eD p_many)), none, none, none, none] : AS) [] (np_d (np_d (np_d np_n))) rfl rfl
    (cb_seq (cb_if (ct_join (σ := Bool) (fun s => s) (fun s => ([some (.dat (eD p_thing)), some (.dat (eD p_end)), some (.dat (eD p_many)), none, none, none, none] : AS)) (ct_or (ct_pure (pt_not (pt_tru (PE1.pl (pe_isi (PL.plr (PE1.pl (pe_var rfl))))) rfl)) (or_ct (fun _ => ⟨_, rfl, rfl, (.keep (.keep (.keep (.drop (.drop (.drop (.drop .nil)))))))⟩) (fun _ => (ct_of (ce_bin (ce_cb (ca_dat (ce_pure (pe_var rfl) ⟨_, rfl, (ca_nil ⟨_, (.cons rfl .nil), (fin_of eI (o_lenD _) (fun v_1 => (ce_pure pe_c ⟨_, _, rfl, rfl, (fin_ok (o_neI _ _) ⟨_, rfl, ⟨_, rfl, rfl, (.keep (.keep (.keep (.drop (.drop (.drop (.drop .nil)))))))⟩⟩)⟩)))⟩)⟩))))))))) (fun s_2 => (cond_split (fun _ => (cb_ret (ce_pure pe_c ⟨_, rfl, rfl, trivial⟩))) (fun _ => (cb_nil (cb_seq (cb_asg (ce_pure (pe_var rfl) ⟨_, rfl, (cg_un (eT4 eD eD eD eD) un4_ok (fun u_3 => (cg_tp rfl (cgs_cons (cg_nm (cgs_cons (cg_nm (cgs_cons (cg_nm (cgs_cons (cg_nm (cgs_nil (cb_at ([some (.dat (eD p_thing)), some (.dat (eD p_end)), some (.dat (eD p_many)), some (.dat (eD u_3.1)), some (.dat (eD u_3.2.1)), some (.dat (eD u_3.2.2.1)), some (.dat (eD u_3.2.2.2))] : AS) rfl (cb_seq (cb_if (ct_join (σ := Bool) (fun s => s) (fun s => ([some (.dat (eD p_thing)), some (.dat (eD p_end)), some (.dat (eD p_many)), some (.dat (eD u_3.1)), some (.dat (eD u_3.2.1)), some (.dat (eD u_3.2.2.1)), some (.dat (eD u_3.2.2.2))] : AS)) (ct_or (ct_not (ct_tru (ce_callN (ca_dat (ce_pure (pe_var rfl) ⟨_, rfl, (ca_dat (ce_pure pe_c ⟨_, rfl, (ca_dat (ce_bin (ce_pure (pe_var rfl) (ce_pure pe_c ⟨_, _, rfl, rfl, (fin_of eD (map_id' _) (fun v_5 => ⟨_, rfl, (ca_nil ⟨_, _, _, _, _, _, rfl, (.dat (.dat (.dat .nil))), rfl, (show List.Nodup ([] : List Nat) from by decide), R_is_within_ddd u_3.1 (eI 0) v_5, fun r_4 => ⟨_, _, rfl, rfl, (or_ct (fun _ => ⟨_, rfl, rfl, (.keep (.keep (.keep (.keep (.keep (.keep (.keep .nil)))))))⟩) (fun _ => (ct_or (ct_not (ct_tru (ce_callN (ca_dat (ce_pure (pe_var rfl) ⟨_, rfl, (ca_dat (ce_pure pe_c ⟨_, rfl, (ca_dat (ce_bin (ce_pure (pe_var rfl) (ce_pure pe_c ⟨_, _, rfl, rfl, (fin_of eD (map_id' _) (fun v_7 => ⟨_, rfl, (ca_nil ⟨_, _, _, _, _, _, rfl, (.dat (.dat (.dat .nil))), rfl, (show List.Nodup ([] : List Nat) from by decide), R_is_within_ddd u_3.2.1 (eI 1) v_7, fun r_6 => ⟨_, _, rfl, rfl, (or_ct (fun _ => ⟨_, rfl, rfl, (.keep (.keep (.keep (.keep (.keep (.keep (.keep .nil)))))))⟩) (fun _ => (ct_of (ce_bin (ce_pure (pe_var rfl) (ce_pure (pe_var rfl) ⟨_, _, rfl, rfl, (fin_of eB (o_eqX _ _) (fun v_8 => ⟨_, rfl, ⟨_, rfl, rfl, (.keep (.keep (.keep (.keep (.keep (.keep (.keep .nil)))))))⟩⟩))⟩))))))⟩⟩)⟩))⟩))))⟩))⟩))))))))⟩⟩)⟩))⟩))))⟩))⟩)))))) (fun s_9 => (cond_split (fun _ => (cb_ret (ce_pure pe_c ⟨_, rfl, rfl, trivial⟩))) (fun _ => (cb_nil (cb_ret (ce_join (σ := Bool) (fun s => (eB s)) (fun s => ([some (.dat (eD p_thing)), some (.dat (eD p_end)), some (.dat (eD p_many)), some (.dat (eD u_3.1)), some (.dat (eD u_3.2.1)), some (.dat (eD u_3.2.2.1)), some (.dat (eD u_3.2.2.2))] : AS)) (ce_and (ce_call0 (pa_cons (pe_var rfl) (pa_cons pe_c (pa_cons (pe_var rfl) pa_nil))) rfl (R_is_within_ddd u_3.2.2.2 (eI 1) p_end) (fun r_10 => ⟨_, rfl, and_ce (fun _ => (ce_call0 (pa_cons (pe_var rfl) (pa_cons pe_c (pa_cons (pe_var rfl) pa_nil))) rfl (R_is_within_ddd u_3.2.2.1 (eI 1) u_3.2.2.2) (fun r_11 => ⟨_, rfl, rfl, (.keep (.keep (.keep (.keep (.keep (.keep (.keep .nil)))))))⟩) trivial)) (fun _ => ⟨_, rfl, rfl, (.keep (.keep (.keep (.keep (.keep (.keep (.keep .nil)))))))⟩)⟩) trivial)) (fun s_12 => ⟨_, rfl, rfl, trivial⟩)))))))))))))))))))))))⟩))))))))))
theorem R_is_bound_dd (p_thing : D) (p_many : D) : RFn F_is_bound [.dat (eD p_thing), .dat (eD p_many)] (T_is_bound p_thing p_many) (fun (r : Bool) => SV.dat (eB r)) (fun (r : Bool) => []) := by
  unfold T_is_bound F_is_bound b_is_bound
  exact rf_fnA ([some (.dat (eD p_thing)), some (.dat (eD p_many)), none, none, none] : AS) [] (np_d (np_d np_n)) rfl rfl
    (cb_seq (cb_if (ct_join (σ := Bool) (fun s => s) (fun s => ([some (.dat (eD p_thing)), some (.dat (eD p_many)), none, none, none] : AS)) (ct_or (ct_pure (pt_not (pt_tru (PE1.pl (pe_isi (PL.plr (PE1.pl (pe_var rfl))))) rfl)) (or_ct (fun _ => ⟨_, rfl, rfl, (.keep (.keep (.drop (.drop (.drop .nil)))))⟩) (fun _ => (ct_of (ce_bin (ce_cb (ca_dat (ce_pure (pe_var rfl) ⟨_, rfl, (ca_nil ⟨_, (.cons rfl .nil), (fin_of eI (o_lenD _) (fun v_1 => (ce_pure pe_c ⟨_, _, rfl, rfl, (fin_ok (o_neI _ _) ⟨_, rfl, ⟨_, rfl, rfl, (.keep (.keep (.drop (.drop (.drop .nil)))))⟩⟩)⟩)))⟩)⟩))))))))) (fun s_2 => (cond_split (fun _ => (cb_ret (ce_pure pe_c ⟨_, rfl, rfl, trivial⟩))) (fun _ => (cb_nil (cb_seq (cb_asg (ce_pure (pe_var rfl) ⟨_, rfl, (cg_un (eT3 eD eD eD) un3_ok (fun u_3 => (cg_tp rfl (cgs_cons (cg_nm (cgs_cons (cg_nm (cgs_cons (cg_nm (cgs_nil (cb_at ([some (.dat (eD p_thing)), some (.dat (eD p_many)), some (.dat (eD u_3.1)), some (.dat (eD u_3.2.1)), some (.dat (eD u_3.2.2))] : AS) rfl (cb_seq (cb_if (ct_join (σ := Bool) (fun s => s) (fun s => ([some (.dat (eD p_thing)), some (.dat (eD p_many)), some (.dat (eD u_3.1)), some (.dat (eD u_3.2.1)), some (.dat (eD u_3.2.2))] : AS)) (ct_or (ct_not (ct_tru (ce_callN (ca_dat (ce_pure (pe_var rfl) ⟨_, rfl, (ca_dat (ce_pure pe_c ⟨_, rfl, (ca_dat (ce_bin (ce_pure (pe_var rfl) (ce_pure pe_c ⟨_, _, rfl, rfl, (fin_of eD (map_id' _) (fun v_5 => ⟨_, rfl, (ca_nil ⟨_, _, _, _, _, _, rfl, (.dat (.dat (.dat .nil))), rfl, (show List.Nodup ([] : List Nat) from by decide), R_is_within_ddd u_3.1 (eI 0) v_5, fun r_4 => ⟨_, _, rfl, rfl, (or_ct (fun _ => ⟨_, rfl, rfl, (.keep (.keep (.keep (.keep (.keep .nil)))))⟩) (fun _ => (ct_or (ct_not (ct_tru (ce_callN (ca_dat (ce_pure (pe_var rfl) ⟨_, rfl, (ca_dat (ce_pure pe_c ⟨_, rfl, (ca_dat (ce_bin (ce_pure (pe_var rfl) (ce_pure pe_c ⟨_, _, rfl, rfl, (fin_of eD (map_id' _) (fun v_7 => ⟨_, rfl, (ca_nil ⟨_, _, _, _, _, _, rfl, (.dat (.dat (.dat .nil))), rfl, (show List.Nodup ([] : List Nat) from by decide), R_is_within_ddd u_3.2.1 (eI 0) v_7, fun r_6 => ⟨_, _, rfl, rfl, (or_ct (fun _ => ⟨_, rfl, rfl, (.keep (.keep (.keep (.keep (.keep .nil)))))⟩) (fun _ => (ct_of (ce_bin (ce_pure (pe_var rfl) (ce_pure (pe_var rfl) ⟨_, _, rfl, rfl, (fin_of eB (o_eqX _ _) (fun v_8 => ⟨_, rfl, ⟨_, rfl, rfl, (.keep (.keep (.keep (.keep (.keep .nil)))))⟩⟩))⟩))))))⟩⟩)⟩))⟩))))⟩))⟩))))))))⟩⟩)⟩))⟩))))⟩))⟩)))))) (fun s_9 => (cond_split (fun _ => (cb_ret (ce_pure pe_c ⟨_, rfl, rfl, trivial⟩))) (fun _ => (cb_nil (cb_ret (ce_call0 (pa_cons (pe_var rfl) (pa_cons (pe_bin (PE1.pl pe_c) (PE1.pl pe_c) rfl) (pa_cons pe_c pa_nil))) rfl (R_is_within_ddd u_3.2.2 (eI (0 - 60)) (eI 60)) (fun r_10 => ⟨_, rfl, rfl, trivial⟩) trivial))))))))))))))))))))⟩))))))))))
theorem R_check_mark_dd (p_book : (Int × Int × (List (Int × Int × Int × Int)) × (List (Int × Int × Int)))) (p_mark : D) : RFn F_check_mark [.dat ((eT4 eI eI (eV (eT4 eI eI eI eI)) (eV (eT3 eI eI eI))) p_book), .dat (eD p_mark)] (T_check_mark p_book p_mark) (fun (r : Unit) => SV.dat (eN r)) (fun (r : Unit) => []) := by
  unfold T_check_mark F_check_mark b_check_mark
  exact rf_fnA ([some (.dat ((eT4 eI eI (eV (eT4 eI eI eI eI)) (eV (eT3 eI eI eI))) p_book)), some (.dat (eD p_mark))] : AS) [] (np_d (np_d np_n)) rfl rfl
    (cb_if (ct_not (ct_tru (ce_call0 (pa_cons (pe_var rfl) (pa_cons pe_c (pa_cons (pe_bin (PE1.pl (pe_ix (PL.plr (PE1.pl (pe_var rfl))) (PE1.pl pe_c) rfl)) (PE1.pl pe_c) rfl) pa_nil))) rfl (R_is_within_ddd p_mark (eI 0) (eI (p_book.2.1 - 1))) (fun r_1 => ⟨_, _, rfl, rfl, (cond_split (fun _ => (cb_raise trivial)) (fun _ => (cb_nil ⟨_, rfl, rfl, trivial⟩)))⟩) trivial))))
theorem R_ways_of_d (p_book : (Int × Int × (List (Int × Int × Int × Int)) × (List (Int × Int × Int)))) : RFn F_ways_of [.dat ((eT4 eI eI (eV (eT4 eI eI eI eI)) (eV (eT3 eI eI eI))) p_book)] (T_ways_of p_book) (fun (r : (List (List Int))) => SV.dat ((eL (eL eI)) r)) (fun (r : (List (List Int))) => []) := by
  unfold T_ways_of F_ways_of b_ways_of
  exact rf_fnA ([some (.dat ((eT4 eI eI (eV (eT4 eI eI eI eI)) (eV (eT3 eI eI eI))) p_book)), none, none] : AS) [] (np_d np_n) rfl rfl
    (cb_seq (cb_set (ce_call0 (pa_cons (pe_var rfl) pa_nil) rfl (R_froms_d p_book) (fun r_1 => (.inl ⟨_, rfl, (cb_ret (ce_lc (eL eI) (tgin_nm (by decide)) (ci_r1 (ca_pure (pa_cons (pe_ix (PL.plr (PE1.pl (pe_var rfl))) (PE1.pl pe_c) rfl) pa_nil) ⟨_, _, rfl, rfl, fun xs_2 => ⟨Int, Unit, eI, (fun (s : Unit) => ([some (.dat ((eT4 eI eI (eV (eT4 eI eI eI eI)) (eV (eT3 eI eI eI))) p_book)), some (.dat ((eK eI) r_1)), none] : AS)), _, _, _, _, rfl, (.keep (.keep (.drop .nil))), (hvs_cons (fun _ => rfl) hvs_nil), rfl, fun x_3 s_4 => (cg_nm (ct_pure pt_yes ⟨fun _ => (ce_call0 (pa_cons (pe_ix (PL.plr (PE1.pl (pe_var rfl))) (PE1.pl pe_c) rfl) (pa_cons (pe_var rfl) (pa_cons (pe_var rfl) pa_nil))) rfl (R_way_from_ddd p_book.2.2.1 r_1 x_3) (fun r_5 => ⟨_, _, rfl, rfl, (.keep (.keep (.drop .nil)))⟩) trivial), fun h => nomatch h⟩)), fun ys_7 s_8 => ⟨_, rfl, rfl, trivial⟩⟩⟩))))⟩)) trivial)))
theorem R_are_spans_ddd (p_thing : D) (p_end : D) (p_many : D) : RFn F_are_spans [.dat (eD p_thing), .dat (eD p_end), .dat (eD p_many)] (T_are_spans p_thing p_end p_many) (fun (r : Bool) => SV.dat (eB r)) (fun (r : Bool) => []) := by
  unfold T_are_spans F_are_spans b_are_spans
  exact rf_fnA ([some (.dat (eD p_thing)), some (.dat (eD p_end)), some (.dat (eD p_many)), none, none, none] : AS) [] (np_d (np_d (np_d np_n))) rfl rfl
    (cb_seq (cb_if (ct_join (σ := Bool) (fun s => s) (fun s => ([some (.dat (eD p_thing)), some (.dat (eD p_end)), some (.dat (eD p_many)), none, none, none] : AS)) (ct_or (ct_pure (pt_not (pt_tru (PE1.pl (pe_isi (PL.plr (PE1.pl (pe_var rfl))))) rfl)) (or_ct (fun _ => ⟨_, rfl, rfl, (.keep (.keep (.keep (.drop (.drop (.drop .nil))))))⟩) (fun _ => (ct_of (ce_bin (ce_cb (ca_dat (ce_pure (pe_var rfl) ⟨_, rfl, (ca_nil ⟨_, (.cons rfl .nil), (fin_of eI (o_lenD _) (fun v_1 => (ce_pure pe_c ⟨_, _, rfl, rfl, (fin_ok rfl ⟨_, rfl, ⟨_, rfl, rfl, (.keep (.keep (.keep (.drop (.drop (.drop .nil))))))⟩⟩)⟩)))⟩)⟩))))))))) (fun s_2 => (cond_split (fun _ => (cb_ret (ce_pure pe_c ⟨_, rfl, rfl, trivial⟩))) (fun _ => (cb_nil (cb_seq (cb_if (ct_not (ct_tru (ce_cb (ca_dat (ce_lc eB (tgin_nm (by decide)) (ci_seqD (ce_pure (pe_var rfl) ⟨_, _, rfl, rfl, fun xs_3 => ⟨D, Unit, eD, (fun (s : Unit) => ([some (.dat (eD p_thing)), some (.dat (eD p_end)), some (.dat (eD p_many)), none, none, none] : AS)), _, _, _, _, rfl, (.keep (.keep (.keep (.drop (.drop (.drop .nil)))))), (hvs_cons (fun _ => rfl) hvs_nil), rfl, fun x_4 s_5 => (cg_nm (ct_pure pt_yes ⟨fun _ => (ce_call0 (pa_cons (pe_var rfl) (pa_cons (pe_var rfl) (pa_cons (pe_var rfl) pa_nil))) rfl (R_is_span_ddd x_4 p_end p_many) (fun r_6 => ⟨_, _, rfl, rfl, (.keep (.keep (.keep (.drop (.drop (.drop .nil))))))⟩) trivial), fun h => nomatch h⟩)), fun ys_18 s_19 => ⟨_, rfl, (ca_nil ⟨_, (.cons rfl .nil), (fin_ok (o_all ys_18) ⟨_, _, rfl, rfl, (cond_split (fun _ => (cb_ret (ce_pure pe_c ⟨_, rfl, rfl, trivial⟩))) (fun _ => (cb_nil (cb_seq (cb_set (ce_call0 (pa_cons (pe_var rfl) pa_nil) rfl (R_spans_by_goal_D_d p_thing) (fun r_8 => (.inl ⟨_, rfl, (cb_ret (ce_join (σ := Bool) (fun s => (eB s)) (fun s => ([some (.dat (eD p_thing)), some (.dat (eD p_end)), some (.dat (eD p_many)), some (.dat ((eK eI) r_8)), none, none] : AS)) (ce_and (ce_bin (ce_pure (pe_cb (pla_cons (PL.plr (PE1.pl (pe_var rfl))) pla_nil) (o_lenK eI r_8)) (ce_cb (ca_dat (ce_pure (pe_var rfl) ⟨_, rfl, (ca_nil ⟨_, (.cons rfl .nil), (fin_of eI (o_lenD _) (fun v_9 => ⟨_, _, rfl, rfl, (fin_ok (o_eqI _ _) ⟨_, rfl, and_ce (fun _ => (ce_cb (ca_dat (ce_lcK (ce_lc eB (tgin_nm (by decide)) (ci_keys rfl ⟨Int, Unit, eI, (fun (s : Unit) => ([some (.dat (eD p_thing)), some (.dat (eD p_end)), some (.dat (eD p_many)), some (.dat ((eK eI) r_8)), none, none] : AS)), _, _, _, _, (keys_T eI r_8), (.keep (.keep (.keep (.keep (.drop (.drop .nil)))))), (hvs_cons (fun _ => rfl) hvs_nil), rfl, fun x_10 s_11 => (cg_nm (ct_pure pt_yes ⟨fun _ => (ce_bin (ce_cb (ca_dat (ce_call0 (pa_cons (pe_var rfl) (pa_cons (pe_var rfl) (pa_cons (pe_var rfl) pa_nil))) rfl (R_way_from_D_ddd p_thing r_8 (eI x_10)) (fun r_12 => ⟨_, rfl, (ca_nil ⟨_, (.cons rfl .nil), (fin_ok (o_lenL eI r_12) (ce_cb (ca_dat (ce_pure (pe_var rfl) ⟨_, rfl, (ca_nil ⟨_, (.cons rfl .nil), (fin_of eI (o_lenD _) (fun v_13 => ⟨_, _, rfl, rfl, (fin_ok rfl ⟨_, _, rfl, rfl, (.keep (.keep (.keep (.keep (.drop (.drop .nil))))))⟩)⟩))⟩)⟩))))⟩)⟩) trivial)))), fun h => nomatch h⟩)), fun ys_15 s_16 => ⟨_, rfl, (ca_nil ⟨_, (.cons rfl .nil), (fin_ok (o_all ys_15) ⟨_, rfl, rfl, (.keep (.keep (.keep (.keep (.drop (.drop .nil))))))⟩)⟩)⟩⟩)))))) (fun _ => ⟨_, rfl, rfl, (.keep (.keep (.keep (.keep (.drop (.drop .nil))))))⟩)⟩)⟩))⟩)⟩)))))) (fun s_17 => ⟨_, rfl, rfl, trivial⟩)))⟩)) trivial))))))⟩)⟩)⟩⟩⟩))))))))))))))))
theorem R_is_book_d (p_thing : D) : RFn F_is_book [.dat (eD p_thing)] (T_is_book p_thing) (fun (r : Bool) => SV.dat (eB r)) (fun (r : Bool) => []) := by
  unfold T_is_book F_is_book b_is_book
  exact rf_fnA ([some (.dat (eD p_thing)), none, none, none, none, none] : AS) [] (np_d np_n) rfl rfl
    (cb_seq (cb_if (ct_join (σ := Bool) (fun s => s) (fun s => ([some (.dat (eD p_thing)), none, none, none, none, none] : AS)) (ct_or (ct_pure (pt_not (pt_tru (PE1.pl (pe_isi (PL.plr (PE1.pl (pe_var rfl))))) rfl)) (or_ct (fun _ => ⟨_, rfl, rfl, (.keep (.drop (.drop (.drop (.drop (.drop .nil))))))⟩) (fun _ => (ct_of (ce_bin (ce_cb (ca_dat (ce_pure (pe_var rfl) ⟨_, rfl, (ca_nil ⟨_, (.cons rfl .nil), (fin_of eI (o_lenD _) (fun v_1 => (ce_pure pe_c ⟨_, _, rfl, rfl, (fin_ok (o_neI _ _) ⟨_, rfl, ⟨_, rfl, rfl, (.keep (.drop (.drop (.drop (.drop (.drop .nil))))))⟩⟩)⟩)))⟩)⟩))))))))) (fun s_2 => (cond_split (fun _ => (cb_ret (ce_pure pe_c ⟨_, rfl, rfl, trivial⟩))) (fun _ => (cb_nil (cb_seq (cb_asg (ce_pure (pe_var rfl) ⟨_, rfl, (cg_un (eT4 eD eD eD eD) un4_ok (fun u_3 => (cg_tp rfl (cgs_cons (cg_nm (cgs_cons (cg_nm (cgs_cons (cg_nm (cgs_cons (cg_nm (cgs_nil (cb_at ([some (.dat (eD p_thing)), some (.dat (eD u_3.1)), some (.dat (eD u_3.2.1)), some (.dat (eD u_3.2.2.1)), some (.dat (eD u_3.2.2.2)), none] : AS) rfl (cb_seq (cb_if (ct_join (σ := Bool) (fun s => s) (fun s => ([some (.dat (eD p_thing)), some (.dat (eD u_3.1)), some (.dat (eD u_3.2.1)), some (.dat (eD u_3.2.2.1)), some (.dat (eD u_3.2.2.2)), none] : AS)) (ct_or (ct_not (ct_tru (ce_call0 (pa_cons (pe_var rfl) (pa_cons pe_c (pa_cons pe_c pa_nil))) rfl (R_is_within_ddd u_3.1 (eI 1) (eI 60)) (fun r_4 => ⟨_, _, rfl, rfl, (or_ct (fun _ => ⟨_, rfl, rfl, (.keep (.keep (.keep (.keep (.keep (.drop .nil))))))⟩) (fun _ => (ct_or (ct_not (ct_tru (ce_call0 (pa_cons (pe_var rfl) (pa_cons pe_c (pa_cons pe_c pa_nil))) rfl (R_is_within_ddd u_3.2.1 (eI 1) (eI 10)) (fun r_5 => ⟨_, _, rfl, rfl, (or_ct (fun _ => ⟨_, rfl, rfl, (.keep (.keep (.keep (.keep (.keep (.drop .nil))))))⟩) (fun _ => (ct_not (ct_tru (ce_call0 (pa_cons (pe_var rfl) (pa_cons (pe_var rfl) (pa_cons (pe_var rfl) pa_nil))) rfl (R_are_spans_ddd u_3.2.2.1 u_3.1 u_3.2.1) (fun r_6 => ⟨_, _, rfl, rfl, ⟨_, rfl, rfl, (.keep (.keep (.keep (.keep (.keep (.drop .nil))))))⟩⟩) trivial)))))⟩) trivial))))))⟩) trivial)))) (fun s_7 => (cond_split (fun _ => (cb_ret (ce_pure pe_c ⟨_, rfl, rfl, trivial⟩))) (fun _ => (cb_nil (cb_seq (cb_if (ct_join (σ := Bool) (fun s => s) (fun s => ([some (.dat (eD p_thing)), some (.dat (eD u_3.1)), some (.dat (eD u_3.2.1)), some (.dat (eD u_3.2.2.1)), some (.dat (eD u_3.2.2.2)), none] : AS)) (ct_or (ct_pure (pt_not (pt_tru (PE1.pl (pe_isi (PL.plr (PE1.pl (pe_var rfl))))) rfl)) (or_ct (fun _ => ⟨_, rfl, rfl, (.keep (.keep (.keep (.keep (.keep (.drop .nil))))))⟩) (fun _ => (ct_of (ce_bin (ce_cb (ca_dat (ce_pure (pe_var rfl) ⟨_, rfl, (ca_nil ⟨_, (.cons rfl .nil), (fin_of eI (o_lenD _) (fun v_8 => (ce_pure pe_c ⟨_, _, rfl, rfl, (fin_ok rfl ⟨_, rfl, ⟨_, rfl, rfl, (.keep (.keep (.keep (.keep (.keep (.drop .nil))))))⟩⟩)⟩)))⟩)⟩))))))))) (fun s_9 => (cond_split (fun _ => (cb_ret (ce_pure pe_c ⟨_, rfl, rfl, trivial⟩))) (fun _ => (cb_nil (cb_ret (ce_cb (ca_dat (ce_lc eB (tgin_nm (by decide)) (ci_seqD (ce_pure (pe_var rfl) ⟨_, _, rfl, rfl, fun xs_10 => ⟨D, Unit, eD, (fun (s : Unit) => ([some (.dat (eD p_thing)), some (.dat (eD u_3.1)), some (.dat (eD u_3.2.1)), some (.dat (eD u_3.2.2.1)), some (.dat (eD u_3.2.2.2)), none] : AS)), _, _, _, _, rfl, (.keep (.keep (.keep (.keep (.keep (.drop .nil)))))), (hvs_cons (fun _ => rfl) hvs_nil), rfl, fun x_11 s_12 => (cg_nm (ct_pure pt_yes ⟨fun _ => (ce_call0 (pa_cons (pe_var rfl) (pa_cons (pe_var rfl) pa_nil)) rfl (R_is_bound_dd x_11 u_3.2.1) (fun r_13 => ⟨_, _, rfl, rfl, (.keep (.keep (.keep (.keep (.keep (.drop .nil))))))⟩) trivial), fun h => nomatch h⟩)), fun ys_15 s_16 => ⟨_, rfl, (ca_nil ⟨_, (.cons rfl .nil), (fin_ok (o_all ys_15) ⟨_, rfl, rfl, trivial⟩)⟩)⟩⟩⟩)))))))))))))))))))))))))))))))))⟩))))))))))
theorem R_check_book_d (p_book : D) : RFn F_check_book [.dat (eD p_book)] (T_check_book p_book) (fun (r : Unit) => SV.dat (eN r)) (fun (r : Unit) => []) := by
  unfold T_check_book F_check_book b_check_book
  exact rf_fnA ([some (.dat (eD p_book))] : AS) [] (np_d np_n) rfl rfl
    (cb_if (ct_not (ct_tru (ce_call0 (pa_cons (pe_var rfl) pa_nil) rfl (R_is_book_d p_book) (fun r_1 => ⟨_, _, rfl, rfl, (cond_split (fun _ => (cb_raise trivial)) (fun _ => (cb_nil ⟨_, rfl, rfl, trivial⟩)))⟩) trivial))))
theorem R_chosen_d (p_book : (Int × Int × (List (Int × Int × Int × Int)) × (List (Int × Int × Int)))) : RFn F_chosen [.dat ((eT4 eI eI (eV (eT4 eI eI eI eI)) (eV (eT3 eI eI eI))) p_book)] (T_chosen p_book) (fun (r : (List Int)) => SV.dat ((eV eI) r)) (fun (r : (List Int)) => []) := by
  unfold T_chosen F_chosen b_chosen
  exact rf_fnA ([some (.dat ((eT4 eI eI (eV (eT4 eI eI eI eI)) (eV (eT3 eI eI eI))) p_book)), none, none] : AS) [] (np_d np_n) rfl rfl
    (cb_seq (cb_expr (ce_call0 (pa_cons (pe_var rfl) pa_nil) rfl (R_check_book_d ((eT4 eI eI (eV (eT4 eI eI eI eI)) (eV (eT3 eI eI eI))) p_book)) (fun r_1 => (cb_seq (cb_set (ce_call0 (pa_cons (pe_var rfl) pa_nil) rfl (R_froms_d p_book) (fun r_2 => (.inl ⟨_, rfl, (cb_ret (ce_cb (ca_dat (ce_lc eI (tgin_nm (by decide)) (ci_r2 (ca_pure (pa_cons pe_c (pa_cons (pe_ix (PL.plr (PE1.pl (pe_var rfl))) (PE1.pl pe_c) rfl) pa_nil)) ⟨_, _, _, rfl, rfl, fun xs_3 => ⟨Int, Unit, eI, (fun (s : Unit) => ([some (.dat ((eT4 eI eI (eV (eT4 eI eI eI eI)) (eV (eT3 eI eI eI))) p_book)), some (.dat ((eK eI) r_2)), none] : AS)), _, _, _, _, rfl, (.keep (.keep (.drop .nil))), (hvs_cons (fun _ => rfl) hvs_nil), rfl, fun x_4 s_5 => (cg_nm (ct_pure (pt_of (pe_bin (PE1.pl (pe_var rfl)) (PE1.pl (pe_var rfl)) (o_ninK eI x_4 r_2))) (it_if (fun _ => (ce_pure (pe_var rfl) ⟨_, _, rfl, rfl, (.keep (.keep (.drop .nil)))⟩)) (fun _ => ⟨_, rfl, (.keep (.keep (.drop .nil)))⟩)))), fun ys_7 s_8 => ⟨_, rfl, (ca_nil ⟨_, (.cons rfl .nil), (fin_ok rfl ⟨_, rfl, rfl, trivial⟩)⟩)⟩⟩⟩))))))⟩)) trivial)))) trivial)))
theorem R_root_dd (p_book : (Int × Int × (List (Int × Int × Int × Int)) × (List (Int × Int × Int)))) (p_mark : D) : RFn F_root [.dat ((eT4 eI eI (eV (eT4 eI eI eI eI)) (eV (eT3 eI eI eI))) p_book), .dat (eD p_mark)] (T_root p_book p_mark) (fun (r : D) => SV.dat (eD r)) (fun (r : D) => []) := by
  unfold T_root F_root b_root
  exact rf_fnA ([some (.dat ((eT4 eI eI (eV (eT4 eI eI eI eI)) (eV (eT3 eI eI eI))) p_book)), some (.dat (eD p_mark)), none] : AS) [] (np_d (np_d np_n)) rfl rfl
    (cb_seq (cb_expr (ce_call0 (pa_cons (pe_var rfl) pa_nil) rfl (R_check_book_d ((eT4 eI eI (eV (eT4 eI eI eI eI)) (eV (eT3 eI eI eI))) p_book)) (fun r_1 => (cb_seq (cb_expr (ce_call0 (pa_cons (pe_var rfl) (pa_cons (pe_var rfl) pa_nil)) rfl (R_check_mark_dd p_book p_mark) (fun r_2 => (cb_seq (cb_for (ci_seq (ce_ix (ce_call0 (pa_cons (pe_var rfl) pa_nil) rfl (R_ways_of_d p_book) (fun r_3 => (ce_pure (pe_var rfl) ⟨_, _, rfl, rfl, (fin_of (eL eI) (o_ixXL (eL eI) r_3 p_mark) (fun v_4 => ⟨_, .inl rfl, (cl_foldI (σ := D) eI (fun (s : D) => ([some (.dat ((eT4 eI eI (eV (eT4 eI eI eI eI)) (eV (eT3 eI eI eI))) p_book)), some (.dat (eD s)), none] : AS)) (fun x_5 s_6 => (cg_nm (cb_set (ce_ix (ce_ix (ce_pure (pe_ix (PL.plr (PE1.pl (pe_var rfl))) (PE1.pl pe_c) rfl) (ce_pure (pe_var rfl) ⟨_, _, rfl, rfl, (fin_of (eT4 eI eI eI eI) (o_ixV (eT4 eI eI eI eI) p_book.2.2.1 x_5) (fun v_7 => (ce_pure pe_c ⟨_, _, rfl, rfl, (fin_ok rfl (.inl ⟨_, rfl, ⟨_, rfl, (.keep (.keep (.drop .nil)))⟩⟩))⟩)))⟩))))))) (fun s_8 => (cb_ret (ce_pure (pe_var rfl) ⟨_, rfl, rfl, trivial⟩))) rfl (.keep (.keep (.drop .nil))))⟩))⟩)) trivial)))))) trivial)))) trivial)))
theorem R_show_book_d (p_book : (Int × Int × (List (Int × Int × Int × Int)) × (List (Int × Int × Int)))) : RFn F_show_book [.dat ((eT4 eI eI (eV (eT4 eI eI eI eI)) (eV (eT3 eI eI eI))) p_book)] (T_show_book p_book) (fun (r : Unit) => SV.dat (eN r)) (fun (r : Unit) => []) := by
  unfold T_show_book F_show_book b_show_book
  exact rf_fnA ([some (.dat ((eT4 eI eI (eV (eT4 eI eI eI eI)) (eV (eT3 eI eI eI))) p_book)), none, none, none, none, none, none] : AS) [] (np_d np_n) rfl rfl
    (cb_seq (cb_expr (ce_call0 (pa_cons (pe_var rfl) pa_nil) rfl (R_check_book_d ((eT4 eI eI (eV (eT4 eI eI eI eI)) (eV (eT3 eI eI eI))) p_book)) (fun r_1 => cb_bad) trivial)))
theorem R_law_refused_dd (p_thing : (Int × Int × (List (Int × Int × Int × Int)) × (List (Int × Int × Int)))) (p_mark : D) : RFn F__law_refused [.dat ((eT4 eI eI (eV (eT4 eI eI eI eI)) (eV (eT3 eI eI eI))) p_thing), .dat (eD p_mark)] (T_law_refused p_thing p_mark) (fun (r : Bool) => SV.dat (eB r)) (fun (r : Bool) => []) := by
  unfold T_law_refused F__law_refused b__law_refused
  exact rf_fnA ([some (.dat ((eT4 eI eI (eV (eT4 eI eI eI eI)) (eV (eT3 eI eI eI))) p_thing)), some (.dat (eD p_mark)), none, none] : AS) [] (np_d (np_d np_n)) rfl rfl
    (cb_seq (cb_setE (ce_pure pe_c ⟨none, .inr ⟨rfl, rfl⟩, (cb_seq (cb_tryE (σ := (Option XV)) (ρr := Bool) ([some (.dat ((eT4 eI eI (eV (eT4 eI eI eI eI)) (eV (eT3 eI eI eI))) p_thing)), some (.dat (eD p_mark)), some (.er (none : Option XV)), none] : AS) (fun (s : (Option XV)) => ([some (.dat ((eT4 eI eI (eV (eT4 eI eI eI eI)) (eV (eT3 eI eI eI))) p_thing)), some (.dat (eD p_mark)), some (.er s), none] : AS)) (fun v B r => RtOk B v ((fun (r : Bool) => SV.dat (eB r)) r) ∧ Prs [] 0 B ((fun (r : Bool) => ([] : List O)) r)) (cb_expr (ce_call0 (pa_cons (pe_var rfl) (pa_cons (pe_var rfl) pa_nil)) rfl (R_root_dd p_thing p_mark) (fun r_1 => ⟨_, rfl, (.keep (.keep (.keep (.drop .nil))))⟩) (.keep (.keep (.keep (.drop .nil)))))) (fun x_2 => (cb_setE (ce_er rfl ⟨_, .inl rfl, ⟨_, rfl, (.keep (.keep (.keep (.drop .nil))))⟩⟩))) (fun s_3 => (cb_ret (ce_callN (ca_er rfl (ca_nil ⟨_, _, _, _, _, _, rfl, (.er .nil), rfl, (show List.Nodup ([] : List Nat) from by decide), R_law_only_e s_3, fun r_4 => ⟨_, rfl, rfl, trivial⟩⟩))))) (fun v B r h => ⟨_, rfl, h⟩)))⟩)))
theorem R_law_refused_all_d (p_thing : (Int × Int × (List (Int × Int × Int × Int)) × (List (Int × Int × Int)))) : RFn F__law_refused_all [.dat ((eT4 eI eI (eV (eT4 eI eI eI eI)) (eV (eT3 eI eI eI))) p_thing)] (T_law_refused_all p_thing) (fun (r : Bool) => SV.dat (eB r)) (fun (r : Bool) => []) := by
  unfold T_law_refused_all F__law_refused_all b__law_refused_all
  exact rf_fnA ([some (.dat ((eT4 eI eI (eV (eT4 eI eI eI eI)) (eV (eT3 eI eI eI))) p_thing)), none, none, none] : AS) [] (np_d np_n) rfl rfl
    (cb_seq (cb_par (ca_pure (pa_cons pe_c (pa_cons pe_c pa_nil)) ⟨[(eN ()), (eN ())], rfl, rfl, (cb_at ([some (.dat ((eT4 eI eI (eV (eT4 eI eI eI eI)) (eV (eT3 eI eI eI))) p_thing)), some (.dat (eN ())), some (.dat (eN ())), none] : AS) rfl (cb_asE (i := 1) rfl (cb_at ([some (.dat ((eT4 eI eI (eV (eT4 eI eI eI eI)) (eV (eT3 eI eI eI))) p_thing)), some (.er (none : Option XV)), some (.dat (eN ())), none] : AS) rfl (cb_asE (i := 2) rfl (cb_at ([some (.dat ((eT4 eI eI (eV (eT4 eI eI eI eI)) (eV (eT3 eI eI eI))) p_thing)), some (.er (none : Option XV)), some (.er (none : Option XV)), none] : AS) rfl (cb_seq (cb_tryE (σ := (Option XV)) (ρr := Bool) ([some (.dat ((eT4 eI eI (eV (eT4 eI eI eI eI)) (eV (eT3 eI eI eI))) p_thing)), some (.er (none : Option XV)), some (.er (none : Option XV)), none] : AS) (fun (s : (Option XV)) => ([some (.dat ((eT4 eI eI (eV (eT4 eI eI eI eI)) (eV (eT3 eI eI eI))) p_thing)), some (.er s), some (.er (none : Option XV)), none] : AS)) (fun v B r => RtOk B v ((fun (r : Bool) => SV.dat (eB r)) r) ∧ Prs [] 0 B ((fun (r : Bool) => ([] : List O)) r)) (cb_expr (ce_call0 (pa_cons (pe_var rfl) pa_nil) rfl (R_chosen_d p_thing) (fun r_1 => ⟨_, rfl, (.keep (.keep (.keep (.drop .nil))))⟩) (.keep (.keep (.keep (.drop .nil)))))) (fun x_2 => (cb_setE (ce_er rfl ⟨_, .inl rfl, ⟨_, rfl, (.keep (.keep (.keep (.drop .nil))))⟩⟩))) (fun s_3 => (cb_seq (cb_tryE (σ := (Option XV)) (ρr := Bool) ([some (.dat ((eT4 eI eI (eV (eT4 eI eI eI eI)) (eV (eT3 eI eI eI))) p_thing)), some (.er s_3), some (.er (none : Option XV)), none] : AS) (fun (s : (Option XV)) => ([some (.dat ((eT4 eI eI (eV (eT4 eI eI eI eI)) (eV (eT3 eI eI eI))) p_thing)), some (.er s_3), some (.er s), none] : AS)) (fun v B r => RtOk B v ((fun (r : Bool) => SV.dat (eB r)) r) ∧ Prs [] 0 B ((fun (r : Bool) => ([] : List O)) r)) (cb_expr (ce_call0 (pa_cons (pe_var rfl) pa_nil) rfl (R_show_book_d p_thing) (fun r_4 => ⟨_, rfl, (.keep (.keep (.keep (.drop .nil))))⟩) (.keep (.keep (.keep (.drop .nil)))))) (fun x_5 => (cb_setE (ce_er rfl ⟨_, .inl rfl, ⟨_, rfl, (.keep (.keep (.keep (.drop .nil))))⟩⟩))) (fun s_6 => (cb_ret (ce_join (σ := Bool) (fun s => (eB s)) (fun s => ([some (.dat ((eT4 eI eI (eV (eT4 eI eI eI eI)) (eV (eT3 eI eI eI))) p_thing)), some (.er s_3), some (.er s_6), none] : AS)) (ce_and (ce_callN (ca_er rfl (ca_nil ⟨_, _, _, _, _, _, rfl, (.er .nil), rfl, (show List.Nodup ([] : List Nat) from by decide), R_law_only_e s_3, fun r_7 => ⟨_, rfl, and_ce (fun _ => (ce_callN (ca_er rfl (ca_nil ⟨_, _, _, _, _, _, rfl, (.er .nil), rfl, (show List.Nodup ([] : List Nat) from by decide), R_law_only_e s_6, fun r_8 => ⟨_, rfl, rfl, (.keep (.keep (.keep (.drop .nil))))⟩⟩)))) (fun _ => ⟨_, rfl, rfl, (.keep (.keep (.keep (.drop .nil))))⟩)⟩⟩)))) (fun s_9 => ⟨_, rfl, rfl, trivial⟩)))) (fun v B r h => ⟨_, rfl, h⟩)))) (fun v B r h => ⟨_, rfl, h⟩))))))))⟩)))
theorem R_law_right_dd (p_thing : (Int × Int × (List (Int × Int × Int × Int)) × (List (Int × Int × Int)))) (p_due : Bool) : RFn F__law_right [.dat ((eT4 eI eI (eV (eT4 eI eI eI eI)) (eV (eT3 eI eI eI))) p_thing), .dat (eB p_due)] (T_law_right p_thing p_due) (fun (r : Bool) => SV.dat (eB r)) (fun (r : Bool) => []) := by
  unfold T_law_right F__law_right b__law_right
  exact rf_fnA ([some (.dat ((eT4 eI eI (eV (eT4 eI eI eI eI)) (eV (eT3 eI eI eI))) p_thing)), some (.dat (eB p_due)), none, none] : AS) [] (np_d (np_d np_n)) rfl rfl
    (cb_seq (cb_set (ce_call0 (pa_cons (pe_var rfl) pa_nil) rfl (R_is_book_d ((eT4 eI eI (eV (eT4 eI eI eI eI)) (eV (eT3 eI eI eI))) p_thing)) (fun r_1 => (.inl ⟨_, rfl, (cb_seq (cb_if (ct_pure (pt_or (pt_not (pt_tru (PE1.pl (pe_isi (PL.plr (PE1.pl (pe_var rfl))))) rfl)) (pt_of (pe_bin (PE1.pl (pe_var rfl)) (PE1.pl (pe_var rfl)) (o_neB _ _)))) (cond_split (fun _ => (cb_ret (ce_pure pe_c ⟨_, rfl, rfl, trivial⟩))) (fun _ => (cb_nil (cb_seq (cb_if (ct_pure (pt_tru (PE1.pl (pe_var rfl)) rfl) (cond_split (fun _ => (cb_ret (ce_join (σ := Bool) (fun s => (eB s)) (fun s => ([some (.dat ((eT4 eI eI (eV (eT4 eI eI eI eI)) (eV (eT3 eI eI eI))) p_thing)), some (.dat (eB p_due)), some (.dat (eB r_1)), none] : AS)) (ce_and (ce_bin (ce_call0 (pa_cons (pe_var rfl) (pa_cons pe_c pa_nil)) rfl (R_root_dd p_thing (eI 0)) (fun r_2 => (ce_pure pe_c ⟨_, _, rfl, rfl, (fin_of eB (o_eqX _ _) (fun v_3 => ⟨_, rfl, and_ce (fun _ => (ce_isi (ce_call0 (pa_cons (pe_var rfl) pa_nil) rfl (R_chosen_d p_thing) (fun r_4 => ⟨_, rfl, ⟨_, rfl, rfl, (.keep (.keep (.keep (.drop .nil))))⟩⟩) trivial))) (fun _ => ⟨_, rfl, rfl, (.keep (.keep (.keep (.drop .nil))))⟩)⟩))⟩)) trivial))) (fun s_5 => ⟨_, rfl, rfl, trivial⟩)))) (fun _ => (cb_nil (cb_ret (ce_join (σ := Bool) (fun s => (eB s)) (fun s => ([some (.dat ((eT4 eI eI (eV (eT4 eI eI eI eI)) (eV (eT3 eI eI eI))) p_thing)), some (.dat (eB p_due)), some (.dat (eB r_1)), none] : AS)) (ce_and (ce_call0 (pa_cons (pe_var rfl) pa_nil) rfl (R_law_refused_all_d p_thing) (fun r_6 => ⟨_, rfl, and_ce (fun _ => (ce_cb (ca_dat (ce_lc eB (tgin_nm (by decide)) (ci_seq (ce_pure (pe_lst (pa_cons pe_c (pa_cons (pe_neg pe_c) (pa_cons pe_c (pa_cons (pe_lst (pa_cons pe_c pa_nil) (leB rfl)) pa_nil)))) (leB rfl)) ⟨_, .inl rfl, ⟨D, Unit, eD, (fun (s : Unit) => ([some (.dat ((eT4 eI eI (eV (eT4 eI eI eI eI)) (eV (eT3 eI eI eI))) p_thing)), some (.dat (eB p_due)), some (.dat (eB r_1)), none] : AS)), _, _, _, _, rfl, (.keep (.keep (.keep (.drop .nil)))), (hvs_cons (fun _ => rfl) hvs_nil), rfl, fun x_7 s_8 => (cg_nm (ct_pure pt_yes ⟨fun _ => (ce_call0 (pa_cons (pe_var rfl) (pa_cons (pe_var rfl) pa_nil)) rfl (R_law_refused_dd p_thing x_7) (fun r_9 => ⟨_, _, rfl, rfl, (.keep (.keep (.keep (.drop .nil))))⟩) trivial), fun h => nomatch h⟩)), fun ys_11 s_12 => ⟨_, rfl, (ca_nil ⟨_, (.cons rfl .nil), (fin_ok (o_all ys_11) ⟨_, rfl, rfl, (.keep (.keep (.keep (.drop .nil))))⟩)⟩)⟩⟩⟩)))))) (fun _ => ⟨_, rfl, rfl, (.keep (.keep (.keep (.drop .nil))))⟩)⟩) trivial)) (fun s_13 => ⟨_, rfl, rfl, trivial⟩)))))))))))))))⟩)) trivial)))
theorem R_law_s (p_script : List Int) : RFn F_law [.scr (List.map PyData.int p_script)] (T_law p_script) (fun (r : Bool) => SV.dat (eB r)) (fun (r : Bool) => []) := by
  unfold T_law F_law b_law
  exact rf_fnA ([some (.scr (List.map PyData.int p_script)), none, none, none, none, none, none, none, none, none, none, none] : AS) [] (np_s np_n) rfl rfl
    (cb_seq (cb_for (ci_r1 (ca_pure (pa_cons (pe_cb (pla_cons (PL.plr (PE1.pl pe_c)) (pla_cons (PL.plr (PE1.pl (pe_cb (pla_cons (PL.plr (PE1.pl (pe_cb (pla_cons (plr_scr rfl) pla_nil) (o_lenL eI p_script)))) (pla_cons (PL.plr (PE1.pl pe_c)) pla_nil)) (o_min2 _ _)))) pla_nil)) (o_max2 _ _)) pa_nil) ⟨_, _, rfl, rfl, fun xs_1 => (cl_forI (σ := Unit) (ρr := Bool) eI (fun (s : Unit) => ([some (.scr (List.map PyData.int p_script)), none, none, none, none, none, none, none, none, none, none, none] : AS)) (fun v B r => RtOk B v ((fun (r : Bool) => SV.dat (eB r)) r) ∧ Prs [] 0 B ((fun (r : Bool) => ([] : List O)) r)) (fun x_2 s_3 => (cg_nm (cb_seq (cb_set (ce_callN (ca_scr rfl (ca_dat (ce_pure (pe_var rfl) ⟨_, rfl, (ca_nil ⟨_, _, _, _, _, _, rfl, (.scr (.dat .nil)), rfl, (show List.Nodup ([] : List Nat) from by decide), R_law_pool_sd p_script x_2, fun r_4 => (.inr ⟨_, rfl, (cb_seq (cb_par (ca_dat (ce_bin (ce_pure pe_c (ce_callN (ca_sl (IsOb.m rfl) (ca_dat (ce_pure pe_c ⟨_, rfl, (ca_nil ⟨(IsOb.m rfl), ⟨_, _, _, _, _, _, rfl, (.sl rfl (.dat .nil)), rfl, (show List.Nodup [2] from by decide), R_law_take_od r_4 60, fun r_5 => ⟨_, _, rfl, rfl, (fin_ok rfl ⟨_, rfl, (ca_dat (ce_bin (ce_pure pe_c (ce_callN (ca_sl (IsOb.m rfl) (ca_dat (ce_pure pe_c ⟨_, rfl, (ca_nil ⟨(IsOb.m rfl), ⟨_, _, _, _, _, _, rfl, (.sl rfl (.dat .nil)), rfl, (show List.Nodup [2] from by decide), R_law_take_od r_5.2 9, fun r_6 => ⟨_, _, rfl, rfl, (fin_ok rfl ⟨_, rfl, (ca_nil ⟨[(eI (1 + r_5.1)), (eI (2 + r_6.1))], rfl, rfl, (cb_at ([some (.scr (List.map PyData.int p_script)), some (.dat (eI x_2)), some (.ob (O.lst (List.map eI r_6.2))), some (.dat (eI (1 + r_5.1))), some (.dat (eI (2 + r_6.1))), none, none, none, none, none, none, none] : AS) rfl (cb_seq (cb_set (ce_bin (ce_pure pe_c (ce_callN (ca_sl (IsOb.m rfl) (ca_dat (ce_pure (pe_bin (PE1.pl (pe_var rfl)) (PE1.pl pe_c) rfl) ⟨_, rfl, (ca_nil ⟨(IsOb.m rfl), ⟨_, _, _, _, _, _, rfl, (.sl rfl (.dat .nil)), rfl, (show List.Nodup [2] from by decide), R_law_take_od r_6.2 ((2 + r_6.1) - 1), fun r_7 => ⟨_, _, rfl, rfl, (fin_ok rfl (.inl ⟨_, rfl, (cb_seq (cb_set (ce_bin (ce_pure pe_c (ce_callN (ca_sl (IsOb.m rfl) (ca_dat (ce_pure (pe_var rfl) ⟨_, rfl, (ca_nil ⟨(IsOb.m rfl), ⟨_, _, _, _, _, _, rfl, (.sl rfl (.dat .nil)), rfl, (show List.Nodup [2] from by decide), R_law_take_od r_7.2 (1 + r_5.1), fun r_8 => ⟨_, _, rfl, rfl, (fin_ok rfl (.inl ⟨_, rfl, (cb_seq (cb_set (ce_tup (ca_dat (ce_bin (ce_bin (ce_pure (pe_bin (PE1.pl (pe_var rfl)) (PE1.pl pe_c) rfl) (ce_callN (ca_sl (IsOb.m rfl) (ca_dat (ce_pure (pe_bin (PE1.pl (pe_var rfl)) (PE1.pl pe_c) rfl) ⟨_, rfl, (ca_nil ⟨(IsOb.m rfl), ⟨_, _, _, _, _, _, rfl, (.sl rfl (.dat .nil)), rfl, (show List.Nodup [2] from by decide), R_law_take_od r_8.2 ((2 + r_6.1) - 1), fun r_9 => ⟨_, _, rfl, rfl, (fin_ok rfl (ce_pure (pe_var rfl) ⟨_, _, rfl, rfl, (fin_of eI (o_modT _ _) (fun v_10 => ⟨_, rfl, (ca_dat (ce_pure (pe_var rfl) ⟨_, rfl, (ca_dat (ce_pure (pe_var rfl) ⟨_, rfl, (ca_dat (ce_bin (ce_pure (pe_var rfl) (ce_callN (ca_sl (IsOb.m rfl) (ca_dat (ce_pure (pe_bin (PE1.pl (pe_bin (PE1.pl (pe_var rfl)) (PE1.pl pe_c) rfl)) (PE1.pl (pe_var rfl)) rfl) ⟨_, rfl, (ca_nil ⟨(IsOb.m rfl), ⟨_, _, _, _, _, _, rfl, (.sl rfl (.dat .nil)), rfl, (show List.Nodup [2] from by decide), R_law_take_od r_9.2 (((1 + r_5.1) + 1) - (1 + r_8.1)), fun r_11 => ⟨_, _, rfl, rfl, (fin_ok rfl ⟨_, rfl, (ca_nil ⟨[(eI v_10), (eI (1 + r_7.1)), (eI (1 + r_8.1)), (eI ((1 + r_8.1) + r_11.1))], rfl, leB rfl, (.inl ⟨_, rfl, (cb_seq (cb_set (ce_tup (ca_dat (ce_pure (pe_var rfl) ⟨_, rfl, (ca_dat (ce_pure (pe_var rfl) ⟨_, rfl, (ca_dat (ce_pure (pe_tup (pa_cons (pe_var rfl) pa_nil) (leB rfl)) ⟨_, rfl, (ca_dat (ce_callN (ca_sl (IsOb.m rfl) (ca_dat (ce_pure (pe_var rfl) ⟨_, rfl, (ca_nil ⟨(IsOb.m rfl), ⟨_, _, _, _, _, _, rfl, (.sl rfl (.dat .nil)), rfl, (show List.Nodup [2] from by decide), R_law_bounds_od r_11.2 (2 + r_6.1), fun r_12 => ⟨_, rfl, (ca_nil ⟨[(eI (1 + r_5.1)), (eI (2 + r_6.1)), ((eT1 (eT4 eI eI eI eI)) (v_10, (1 + r_7.1), (1 + r_8.1), ((1 + r_8.1) + r_11.1))), ((eV (eT3 eI eI eI)) r_12.1)], rfl, leB rfl, (.inl ⟨_, rfl, (cb_seq (cb_set (ce_bin (ce_bin (ce_bin (ce_callN (ca_sl (IsOb.m rfl) (ca_dat (ce_pure (pe_var rfl) ⟨_, rfl, (ca_nil ⟨(IsOb.m rfl), ⟨_, _, _, _, _, _, rfl, (.sl rfl (.dat .nil)), rfl, (show List.Nodup [2] from by decide), R_law_sizes_od r_12.2 ((1 + r_5.1), (2 + r_6.1), (v_10, (1 + r_7.1), (1 + r_8.1), ((1 + r_8.1) + r_11.1)), r_12.1), fun r_13 => (ce_callN (ca_sl (IsOb.m rfl) (ca_dat (ce_pure (pe_var rfl) ⟨_, rfl, (ca_nil ⟨(IsOb.m rfl), ⟨_, _, _, _, _, _, rfl, (.sl rfl (.dat .nil)), rfl, (show List.Nodup [2] from by decide), R_law_of_spans_od r_13.2 ((1 + r_5.1), (2 + r_6.1), (v_10, (1 + r_7.1), (1 + r_8.1), ((1 + r_8.1) + r_11.1)), r_12.1), fun r_14 => ⟨_, _, rfl, rfl, (fin_of (eL eD) (o_catL eD r_13.1 r_14.1) (fun v_15 => (ce_callN (ca_sl (IsOb.m rfl) (ca_dat (ce_pure (pe_var rfl) ⟨_, rfl, (ca_nil ⟨(IsOb.m rfl), ⟨_, _, _, _, _, _, rfl, (.sl rfl (.dat .nil)), rfl, (show List.Nodup [2] from by decide), R_law_of_bounds_od r_14.2 ((1 + r_5.1), (2 + r_6.1), (v_10, (1 + r_7.1), (1 + r_8.1), ((1 + r_8.1) + r_11.1)), r_12.1), fun r_16 => ⟨_, _, rfl, rfl, (fin_of (eL eD) (o_catL eD v_15 r_16.1) (fun v_17 => (ce_pure (pe_lst (pa_cons (pe_tup (pa_cons (pe_var rfl) (pa_cons pe_c pa_nil)) (leB rfl)) pa_nil) (leB rfl)) ⟨_, _, rfl, rfl, (fin_of (eL eD) (o_catL eD v_17 [((eT2 (eT4 eI eI (eT1 (eT4 eI eI eI eI)) (eV (eT3 eI eI eI))) eB) (((1 + r_5.1), (2 + r_6.1), (v_10, (1 + r_7.1), (1 + r_8.1), ((1 + r_8.1) + r_11.1)), r_12.1), true))]) (fun v_18 => (.inl ⟨_, rfl, (cb_if (ct_not (ct_tru (ce_cb (ca_dat (ce_lc eB (tgin_tp (tgsin_cons (tgin_nm (by decide)) (tgsin_cons (tgin_nm (by decide)) tgsin_nil))) (ci_seq (ce_pure (pe_var rfl) ⟨_, .inl rfl, ⟨D, Unit, eD, (fun (s : Unit) => ([some (.scr (List.map PyData.int p_script)), some (.dat (eI x_2)), some (.ob (O.lst (List.map eI r_16.2))), some (.dat (eI (1 + r_5.1))), some (.dat (eI (2 + r_6.1))), some (.dat (eI (1 + r_7.1))), some (.dat (eI (1 + r_8.1))), some (.dat ((eT4 eI eI eI eI) (v_10, (1 + r_7.1), (1 + r_8.1), ((1 + r_8.1) + r_11.1)))), some (.dat ((eT4 eI eI (eT1 (eT4 eI eI eI eI)) (eV (eT3 eI eI eI))) ((1 + r_5.1), (2 + r_6.1), (v_10, (1 + r_7.1), (1 + r_8.1), ((1 + r_8.1) + r_11.1)), r_12.1))), some (.dat ((eL eD) v_18)), none, none] : AS)), _, _, _, _, rfl, (.keep (.keep (.keep (.keep (.keep (.keep (.keep (.keep (.keep (.keep (.drop (.drop .nil)))))))))))), (hvs_cons (fun _ => rfl) (hvs_cons (fun _ => rfl) hvs_nil)), rfl, fun x_19 s_20 => (cg_un (eT2 eD eD) un2_ok (fun u_21 => (cg_tp rfl (cgs_cons (cg_nm (cgs_cons (cg_nm (cgs_nil (ct_pure pt_yes ⟨fun _ => (ce_call (ca_dat (ce_un (unT4_ok unI_ok unI_ok (unV_ok (unT4_ok unI_ok unI_ok unI_ok unI_ok)) (unV_ok (unT3_ok unI_ok unI_ok unI_ok))) (ce_pure (pe_var rfl) ⟨_, _, rfl, rfl, fun v_23 => ⟨_, rfl, (ca_dat (ce_un unB_ok (ce_pure (pe_var rfl) ⟨_, _, rfl, rfl, fun v_24 => ⟨_, rfl, (ca_nil ⟨_, _, _, _, _, _, _, rfl, (.dat (.dat .nil)), rfl, (show List.Nodup ([] : List Nat) from by decide), R_law_right_dd v_23 v_24, fun r_22 => ⟨_, _, rfl, rfl, (.keep (.keep (.keep (.keep (.keep (.keep (.keep (.keep (.keep (.keep (.drop (.drop .nil))))))))))))⟩, fun x es _ _ => trivial⟩)⟩⟩)))⟩⟩)))), fun h => nomatch h⟩))))))))), fun ys_26 s_27 => ⟨_, rfl, (ca_nil ⟨_, (.cons rfl .nil), (fin_ok (o_all ys_26) ⟨_, _, rfl, rfl, (cond_split (fun _ => (cb_ret (ce_pure pe_c ⟨_, rfl, rfl, trivial⟩))) (fun _ => (cb_nil ⟨_, rfl, (.keep (.drop (.drop (.drop (.drop (.drop (.drop (.drop (.drop (.drop (.drop (.drop .nil))))))))))))⟩)))⟩)⟩)⟩⟩⟩))))))))⟩)))⟩)))⟩⟩⟩)⟩))))))⟩⟩⟩)⟩))))⟩⟩)⟩)))))))))⟩)⟩)⟩⟩⟩)⟩)))))⟩))⟩))⟩)))))⟩)⟩)⟩)⟩⟩⟩)⟩)))))))⟩))⟩))⟩))⟩))⟩⟩⟩)⟩)))))))))))⟩))⟩⟩⟩)⟩))))))))⟩))⟩⟩⟩)⟩)))))))))⟩)⟩)⟩⟩⟩)⟩)))))))⟩)⟩⟩⟩)⟩)))))))))⟩)⟩)⟩)))))))) (fun s_28 => (cb_ret (ce_pure pe_c ⟨_, rfl, rfl, trivial⟩))) (fun v B r h => ⟨_, rfl, h⟩) rfl (.keep (.drop (.drop (.drop (.drop (.drop (.drop (.drop (.drop (.drop (.drop (.drop .nil)))))))))))))⟩))))
end Law

/-! is_book of a good book -/
namespace Law
open PySem L2 DL
theorem within_int (x a b : Int) : T_is_within (.int x) (.int a) (.int b) = .ok (decide (a ≤ x) && decide (x ≤ b)) := by
  unfold T_is_within T_is_whole
  by_cases h : a ≤ x <;> simp [isiD, cmpT, h]
theorem is_span_ok {e n : Int} {s : Sp} (h : SpOk e n s) : T_is_span (eSp s) (.int e) (.int n) = .ok true := by
  have h1 : T_is_within (.int s.1) (.int 0) (.int (n - 1)) = .ok true := by rw [within_int]; simp [h.a0, h.a1]
  have h2 : T_is_within (.int s.2.1) (.int 1) (.int (n - 1)) = .ok true := by rw [within_int]; simp [h.g0, h.g1]
  have h3 : T_is_within (.int s.2.2.2) (.int 1) (.int e) = .ok true := by have := h.l0; have := h.lm; have := h.me; rw [within_int]; simp; omega
  have h4 : T_is_within (.int s.2.2.1) (.int 1) (.int s.2.2.2) = .ok true := by have := h.l0; have := h.lm; rw [within_int]; simp; omega
  have h5 : eqB (.int s.1) (.int s.2.1) = some false := by rw [eqB_int]; simp [h.ne]
  unfold T_is_span
  simp [isiD, lenT, un4, subD, h1, h2, h3, h4, h5]
theorem is_bound_ok {n : Int} {b : Bd} (h : BdOk n b) : T_is_bound (eBd b) (.int n) = .ok true := by
  have h1 : T_is_within (.int b.1) (.int 0) (.int (n - 1)) = .ok true := by rw [within_int]; simp [h.a0, h.a1]
  have h2 : T_is_within (.int b.2.1) (.int 0) (.int (n - 1)) = .ok true := by rw [within_int]; simp [h.b0, h.b1]
  have h3 : T_is_within (.int b.2.2) (.int (0 - 60)) (.int 60) = .ok true := by have := h.w0; have := h.w1; rw [within_int]; simp; omega
  have h5 : eqB (.int b.1) (.int b.2.1) = some false := by rw [eqB_int]; simp [h.ne]
  unfold T_is_bound
  have h3' : T_is_within (.int b.2.2) (.int (-60)) (.int 60) = .ok true := h3
  simp [isiD, lenT, un3, subD, h1, h2, h3', h5]
def KD (sps : List Sp) (k : Int) : List (Int × Int) := (enumT k sps).map fun p => (p.2.2.1, p.1)
theorem KD_get : ∀ (sps : List Sp) (k : Nat) (m : Int), getT (KD sps k) m = (fnd sps k m).map fun p => (p.1 : Int)
  | [], k, m => rfl
  | s :: r, k, m => by
    have ih := KD_get r (k + 1) m
    show getT ((s.2.1, (k : Int)) :: KD r ((k : Int) + 1)) m = _
    rw [getT_cons, fnd]
    by_cases z : s.2.1 = m
    · simp [z]
    · simp only [if_neg z]; exact ih
theorem KD_app (sps : List Sp) (s : Sp) : ∀ k : Int, KD (sps ++ [s]) k = KD sps k ++ [(s.2.1, k + sps.length)] := by
  induction sps with
  | nil => intro k; simp [KD, enumT]
  | cons x r ih =>
    intro k
    have := ih (k + 1)
    simp only [KD] at this ⊢
    simp only [List.cons_append, enumT, List.map_cons, this, List.length_cons]
    congr 3
    simp; omega
theorem KD_len : ∀ (sps : List Sp) (k : Int), (KD sps k).length = sps.length
  | [], k => rfl
  | s :: r, k => by have := KD_len r (k + 1); simp only [KD, List.length_map] at this ⊢; simp [enumT, this]
theorem KD_keys : ∀ (sps : List Sp) (k : Int), (KD sps k).map (fun p => p.1) = sps.map (·.2.1)
  | [], k => rfl
  | s :: r, k => by have := KD_keys r (k + 1); simp only [KD] at this ⊢; simp [enumT, this]
theorem putT_new {α : Type} {m : List (Int × α)} {k : Int} {v : α} (h : k ∉ m.map (fun p => p.1)) : putT m k v = m ++ [(k, v)] := by
  unfold putT
  rw [if_neg]
  intro z
  simp only [List.any_eq_true, decide_eq_true_eq] at z
  obtain ⟨p, hp, rfl⟩ := z
  exact h (List.mem_map_of_mem hp)
theorem enumT_map {α β : Type} (f : α → β) : ∀ (k : Int) (xs : List α), enumT k (xs.map f) = (enumT k xs).map fun p => (p.1, f p.2)
  | _, [] => rfl
  | k, x :: r => by simp [enumT, enumT_map f (k + 1) r]
theorem foldQ_map {α β σ : Type} (g : β → α) (f : α → σ → Q σ) : ∀ (xs : List β) (s : σ), foldQ (xs.map g) s f = foldQ xs s fun x s => f (g x) s
  | [], s => rfl
  | x :: xs, s => by simp only [List.map_cons, foldQ]; congr 1; funext s'; exact foldQ_map g f xs s'
theorem enumT_get {α : Type} : ∀ (k : Int) (d : List (Int × α)) (x : Int × α) (r : List (Int × α)) (xs : List α), enumT k xs = d ++ x :: r → x.1 = k + d.length ∧ ∃ r', xs = d.map (·.2) ++ x.2 :: r'
  | k, [], x, r, [], h => by simp [enumT] at h
  | k, [], x, r, y :: ys, h => by simp [enumT] at h; obtain ⟨rfl, h⟩ := h; exact ⟨by simp, ys, rfl⟩
  | k, e :: d, x, r, [], h => by simp [enumT] at h
  | k, e :: d, x, r, y :: ys, h => by
    simp only [enumT, List.cons_append, List.cons.injEq] at h
    obtain ⟨rfl, h⟩ := h
    obtain ⟨h1, r', h2⟩ := enumT_get (k + 1) d x r ys h
    exact ⟨by simp; omega, r', by simp [h2]⟩
theorem goal_ok (sps : List Sp) (hn : (sps.map (·.2.1)).Nodup) (hl : sps.length < 16777216) : T_spans_by_goal_D (eV eSp sps) = .ok (KD sps 0) := by
  unfold T_spans_by_goal_D
  simp only [eV, itT, Q.of_some, Q.ok_bind, enumT_map, foldQ_map]
  obtain ⟨s', e, h⟩ := foldQ_pre (f := fun (x : Int × Sp) (s : List (Int × Int)) => (Q.of (ixD (eSp x.2) (eI 1))).bind fun v => (Q.of (keyI v)).bind fun k => (Q.of (roomT s.length)).bind fun _ => .ok (putT s k x.1)) (fun d s => s = KD (d.map (·.2)) 0) (xs := enumT 0 sps) (s := []) [] (fun d x r s e hi => by
    obtain ⟨h1, r', h2⟩ := enumT_get 0 d x r sps (by simpa using e)
    subst hi
    have hlen : d.length < 16777216 := by
      have := congrArg List.length h2; simp at this; omega
    refine ⟨_, ?_, rfl⟩
    have e1 : ixD (eSp x.2) (eI 1) = some (.int x.2.2.1) := rfl
    simp only [e1, Q.of_some, Q.ok_bind, keyI, roomT_ok (show (KD (d.map (·.2)) 0).length < 16777216 by rw [KD_len]; simpa using hlen)]
    rw [putT_new, List.map_append, List.map_singleton, KD_app, h1]
    · simp
    · rw [KD_keys]
      rw [h2, List.map_append, List.nodup_append] at hn
      intro z
      exact hn.2.2 _ z _ (by simp) rfl) rfl
  rw [show (KD sps 0) = s' by
    rw [h]
    have : ∀ (k : Int) (xs : List Sp), (enumT k xs).map (·.2) = xs := fun k xs => by
      induction xs generalizing k with
      | nil => rfl
      | cons x r ih => simp [enumT, ih]
    simp [this]]
  exact congrArg (fun q => Q.bind q _) e
theorem lenT_V {α : Type} (f : α → D) (xs : List α) : lenT (eV f xs) = some (xs.length : Int) := by simp [lenT]
theorem ixD_V {α : Type} (f : α → D) {xs : List α} {i : Nat} {x : α} (h : xs[i]? = some x) : ixD (eV f xs) (.int i) = some (f x) := by
  rw [o_ixV, atI_n, h]; rfl
theorem way_ok (sps : List Sp) (m : Int) (hl : sps.length < 900) : T_way_from_D (eV eSp sps) (KD sps 0) (.int m) = .ok ((way sps (sps.length + 1) m).map Int.ofNat) := by
  unfold T_way_from_D
  have loop : ∀ (n fuel : Nat) (m : Int) (is : List Nat), n < fuel → is.length + n = sps.length + 1 → ∃ m', whileS (fun (s : D × List Int) => (Q.of (inX (KD sps 0) s.1)).bind fun v => (if v = true then (Q.of (lenT (eD (eV eSp sps)))).bind fun v3 => .ok (decide ((s.2.length : Int) ≤ v3)) else .ok false)) (fun (s : D × List Int) => (Q.of (getX (KD sps 0) s.1)).bind fun v4 => (Q.of (roomT s.2.length)).bind fun _ => (Q.of (getX (KD sps 0) s.1)).bind fun v5 => (Q.of (ixD (eD (eV eSp sps)) (eI v5))).bind fun v6 => (Q.of (ixD (eD v6) (eI 0))).bind fun v7 => .ok (v7, (s.2 ++ [v4]))) fuel (.int m, is.map Int.ofNat) = .ok (m', (is ++ way sps n m).map Int.ofNat) := by
    intro n
    induction n with
    | zero =>
      intro fuel m is hf hi
      cases fuel with
      | zero => omega
      | succ fuel =>
        refine ⟨.int m, ?_⟩
        have e : ¬ ((is.length : Int) ≤ (sps.length : Int)) := by omega
        rw [while_f, way, List.append_nil]
        simp only [inX, keyI, Option.map, Q.of_some, Q.ok_bind, eD, lenT_V, List.length_map, e, decide_false]
        split <;> rfl
    | succ n ih =>
      intro fuel m is hf hi
      cases fuel with
      | zero => omega
      | succ fuel =>
        have e : ((is.length : Int) ≤ (sps.length : Int)) := by omega
        have kg : getT (KD sps 0) m = (fnd sps 0 m).map fun p => (p.1 : Int) := KD_get sps 0 m
        cases z : fnd sps 0 m with
        | none =>
          refine ⟨.int m, ?_⟩
          rw [z] at kg
          rw [while_f (by simp [inX, keyI, kg])]
          simp [way, z]
        | some p =>
          obtain ⟨i, s⟩ := p
          obtain ⟨_, h2, h3⟩ := fnd_at sps 0 i m s z
          obtain ⟨m', h⟩ := ih fuel s.1 (is ++ [i]) (by omega) (by simp; omega)
          refine ⟨m', ?_⟩
          rw [z] at kg
          simp only [Option.map] at kg
          have r1 : roomT (is.map Int.ofNat).length = some () := roomT_ok (by simp; omega)
          have r2 : ixD (eV eSp sps) (eI (i : Int)) = some (eSp s) := ixD_V eSp (by simpa using h2)
          have r3 : ixD (eSp s) (eI 0) = some (.int s.1) := rfl
          have hw : way sps (n + 1) m = i :: way sps n s.1 := by simp only [way, z]
          rw [while_t (s' := (.int s.1, (is ++ [i]).map Int.ofNat))]
          · rw [hw, h]; simp
          · simp only [inX, keyI, kg, Option.map, Q.of_some, Q.ok_bind, Option.isSome, if_true, eD, lenT_V, List.length_map, e, decide_true]
          · simp only [getX, keyI, kg, Option.bind, Q.of_some, Q.ok_bind, eD, r1, r2, r3, List.map_append]; rfl
  obtain ⟨m', h⟩ := loop (sps.length + 1) fuelW m [] (by unfold fuelW; omega) (by simp)
  simp only [List.map_nil, List.nil_append] at h
  exact (congrArg (fun q => Q.bind q _) h)
theorem are_spans_ok {e n : Int} (sps : List Sp) (hl : sps.length ≤ 4) (ho : ∀ s ∈ sps, SpOk e n s) (hn : (sps.map (·.2.1)).Nodup) (ha : Acyc sps) : T_are_spans (eV eSp sps) (.int e) (.int n) = .ok true := by
  unfold T_are_spans
  have hl' : ¬ (4 : Int) < (sps.length : Int) := by omega
  have c1 : compQ (γ := Bool) (sps.map eSp) () (fun x s => (T_is_span x (.int e) (.int n)).bind fun r => .ok (some r, ())) = .ok ((sps.map eSp).map (fun _ => true), ()) := compQ_fun _ fun x hx => by
    obtain ⟨s, hs, rfl⟩ := List.mem_map.mp hx
    rw [is_span_ok (ho s hs)]; rfl
  have a1 : (((sps.map eSp).map (fun _ => true)).all id) = true := by simp
  have a2 : (((List.map (fun p => p.1) (KD sps 0)).map (fun _ => true)).all id) = true := by simp
  have l1 : ((KD sps 0).length : Int) = (sps.length : Int) := by rw [KD_len]
  have g1 := goal_ok sps hn (by omega)
  simp only [show isiD "tuple" (eD (eV eSp sps)) = true from rfl, Bool.not_true, Bool.false_eq_true, if_false, eD, lenT_V, Q.of_some, Q.ok_bind, hl', decide_false, itT, c1, a1, g1, l1, decide_true, if_true]
  rw [compQ_fun (fun _ => true)]
  · simp
  · intro x hx
    rw [way_ok sps x (by omega)]
    have := (way_le (sps := sps) (sps.length + 1) x).1 (acyc_root ha x)
    have h : ((way sps (sps.length + 1) x).length : Int) ≤ (sps.length : Int) := by omega
    simp only [Q.ok_bind, eD, lenT_V, Q.of_some, List.length_map, h, decide_true]
theorem is_book_ok {b : Bk} (h : BkOk b) : T_is_book (eBk b) = .ok true := by
  obtain ⟨e, n, sps, bds⟩ := b
  have h1 : T_is_within (.int e) (.int 1) (.int 60) = .ok true := by have := h.e0; have := h.e1; rw [within_int]; simp at *; omega
  have h2 : T_is_within (.int n) (.int 1) (.int 10) = .ok true := by have := h.n0; have := h.n1; rw [within_int]; simp at *; omega
  have h3 := are_spans_ok (e := e) (n := n) sps h.sl h.so h.nd h.ac
  have hl' : ¬ (30 : Int) < (bds.length : Int) := by have := h.bl; simp at this; omega
  have c1 : compQ (γ := Bool) (bds.map eBd) () (fun x s => (T_is_bound x (.int n)).bind fun r => .ok (some r, ())) = .ok ((bds.map eBd).map (fun _ => true), ()) := compQ_fun _ fun x hx => by
    obtain ⟨s, hs, rfl⟩ := List.mem_map.mp hx
    rw [is_bound_ok (h.bo s hs)]; rfl
  have a1 : (((bds.map eBd).map (fun _ => true)).all id) = true := by simp
  unfold T_is_book
  have i1 : isiD "tuple" (eD (eBk (e, n, sps, bds))) = true := rfl
  have i2 : lenT (eD (eBk (e, n, sps, bds))) = some 4 := rfl
  have i3 : un4 (eBk (e, n, sps, bds)) = some (.int e, .int n, eV eSp sps, eV eBd bds) := rfl
  have i4 : isiD "tuple" (eD (eV eBd bds)) = true := rfl
  simp only [i1, i2, i3, i4, Bool.not_true, Bool.false_eq_true, if_false, Q.of_some, Q.ok_bind, decide_true, h1, h2, h3, eD, lenT_V, hl', decide_false, itT, c1, a1]
theorem check_book_ok {b : Bk} (h : BkOk b) : T_check_book (eBk b) = .ok () := by
  unfold T_check_book
  rw [is_book_ok h]; rfl
end Law

/-! the pool of digits, as k10 has it -/
namespace Law
open PySem L2 DL
def Pool (l : List Int) : Prop := ∃ p, l = [p]
theorem take_ok {l : List Int} {m : Int} (h : Pool l) (h0 : 0 < m) (h1 : m < 1073741824) : ∃ d l', T_law_take l m = .ok (d, l') ∧ Pool l' ∧ 0 ≤ d ∧ d < m := by
  obtain ⟨p, rfl⟩ := h
  refine ⟨p % m, [p / m], ?_, ⟨_, rfl⟩, Int.emod_nonneg _ (by omega), Int.emod_lt_of_pos _ h0⟩
  have e1 : atI [p] 0 = some p := rfl
  have e2 : divmodT p m = some (p / m, p % m) := by unfold divmodT; rw [if_pos ⟨h0, h1⟩]
  have e3 : setT [p] 0 (p / m) = some [p / m] := rfl
  unfold T_law_take
  simp only [e1, e2, e3, Q.of_some, Q.ok_bind]
theorem take_post {l : List Int} {m : Int} (h : Pool l) (h0 : 0 < m) (h1 : m < 1073741824) : (T_law_take l m).Post fun r => Pool r.2 ∧ 0 ≤ r.1 ∧ r.1 < m := by
  obtain ⟨d, l', e, h1, h2, h3⟩ := take_ok h h0 h1
  exact ⟨(d, l'), e, h1, h2, h3⟩
theorem modT_ok {i j : Int} (h : 0 < j) : modT i j = some (i % j) := by unfold modT; rw [if_pos h]
theorem mulT_l {i j : Int} (h : -18446744073709551616 < i) (h2 : i < 18446744073709551616) : mulT i j = some (i * j) := by
  unfold mulT; rw [if_pos]; simp [small_of h h2]
theorem mulT_r {i j : Int} (h : -18446744073709551616 < j) (h2 : j < 18446744073709551616) : mulT i j = some (i * j) := by
  unfold mulT; rw [if_pos]; simp [small_of h h2]
theorem pool_ok (ns : List Int) {k : Int} (h0 : 0 ≤ k) (h1 : k ≤ 1000000) : (T_law_pool ns k).Post Pool := by
  unfold T_law_pool
  rw [Q.ok_bind]
  refine .ite (fun _ => ?_) fun _ => ?_
  · rw [modT_ok P384_pos, Q.of_some, Q.ok_bind]
    exact .ok ⟨_, rfl⟩
  · rw [mulT_r (by omega) (by omega), Q.of_some, Q.ok_bind, rgT0 (by omega) (by omega), Q.of_some, Q.ok_bind]
    refine foldQ_post (fun _ _ => True) trivial (fun x hx n s _ _ => ?_) fun s _ => .ok ⟨_, rfl⟩
    rw [Q.ok_bind]
    generalize hz : (((s.1 % 999999999989 * 69621 + 40503 * x + 271) % 999999999989) : Int) = z
    have b1 : 0 ≤ z := by rw [← hz]; exact Int.emod_nonneg _ (by decide)
    have b2 : z < 999999999989 := by rw [← hz]; exact Int.emod_lt_of_pos _ (by decide)
    rw [mulT_r (by decide) (by decide), Q.of_some, Q.ok_bind, mulT_l (by omega) (by omega), Q.of_some, Q.ok_bind]
    exact .ok trivial
end Law

/-! spans that are drawn: what is common -/
namespace Law
open PySem L2 DL
def Hg (sps : List Sp) : List (Int × Int) := sps.map fun s => (s.2.1, s.1)
theorem Hg_get : ∀ (sps : List Sp) (k : Nat) (m : Int), getT (Hg sps) m = (fnd sps k m).map fun p => p.2.1
  | [], k, m => rfl
  | s :: r, k, m => by
    have ih := Hg_get r (k + 1) m
    show getT ((s.2.1, s.1) :: Hg r) m = _
    rw [getT_cons, fnd]
    by_cases z : s.2.1 = m
    · simp [z]
    · simp only [if_neg z]; exact ih
theorem Hg_keys (sps : List Sp) : (Hg sps).map (fun p => p.1) = sps.map (·.2.1) := by simp [Hg]
theorem root_loop (sps : List Sp) : ∀ (k fuel : Nat) (m x : Int), rootM sps k m = some x → k ≤ fuel → whileS (fun (s : Int) => .ok (Option.isSome (getT (Hg sps) s))) (fun (s : Int) => (Q.of (getT (Hg sps) s)).bind fun v => .ok v) fuel m = .ok x
  | 0, _, _, _, h, _ => by simp [rootM] at h
  | k + 1, 0, _, _, _, h => by omega
  | k + 1, fuel + 1, m, x, h, hf => by
    unfold rootM at h
    have kg := Hg_get sps 0 m
    cases z : fnd sps 0 m with
    | none =>
      rw [z] at kg h
      simp at h
      rw [while_f (by rw [kg]; rfl), h]
    | some p =>
      rw [z] at kg h
      rw [while_t (s' := p.2.1) (by rw [kg]; rfl) (by rw [kg]; rfl)]
      exact root_loop sps k fuel _ x h (by omega)
theorem acyc_fuel {sps : List Sp} (h : Acyc sps) (hl : sps.length < 900) (m : Int) : ∃ x, rootM sps (sps.length + 1) m = some x ∧ whileS (fun (s : Int) => .ok (Option.isSome (getT (Hg sps) s))) (fun (s : Int) => (Q.of (getT (Hg sps) s)).bind fun v => .ok v) fuelW m = .ok x := by
  have := acyc_root h m
  cases e : rootM sps (sps.length + 1) m with
  | none => rw [e] at this; cases this
  | some x => exact ⟨x, rfl, root_loop sps _ fuelW m x e (by unfold fuelW; omega)⟩
/-- what spans are that were drawn so far -/
structure SpsOk (e n : Int) (sps : List Sp) : Prop where
  so : ∀ s ∈ sps, SpOk e n s
  nd : (sps.map (·.2.1)).Nodup
  ac : Acyc sps
theorem SpsOk.nil {e n : Int} : SpsOk e n [] := ⟨fun s h => by simp at h, by simp, acyc_nil⟩
theorem SpsOk.add {e n : Int} {sps : List Sp} {s : Sp} {x : Int} (h : SpsOk e n sps) (hs : SpOk e n s) (hf : fnd sps 0 s.2.1 = none) (hx : rootM sps (sps.length + 1) s.1 = some x) (hne : x ≠ s.2.1) : SpsOk e n (sps ++ [s]) := by
  refine ⟨fun t ht => ?_, ?_, acyc_add h.ac hx hne⟩
  · rcases List.mem_append.mp ht with ht | ht
    · exact h.so t ht
    · simp at ht; subst ht; exact hs
  · rw [List.map_append, List.nodup_append]
    refine ⟨h.nd, by simp, fun a ha b hb => ?_⟩
    simp at hb
    subst hb
    intro e
    subst e
    exact (fnd_none sps 0 _).1 hf ha
theorem at2 {a b i : Int} (h0 : 0 ≤ i) (h1 : i < 2) : ∃ x, atI [a, b] i = some x ∧ (x = a ∨ x = b) := by
  have : i = 0 ∨ i = 1 := by omega
  rcases this with rfl | rfl
  · exact ⟨a, rfl, .inl rfl⟩
  · exact ⟨b, rfl, .inr rfl⟩
theorem at3 {a b c i : Int} (h0 : 0 ≤ i) (h1 : i < 3) : ∃ x, atI [a, b, c] i = some x ∧ (x = a ∨ x = b ∨ x = c) := by
  have : i = 0 ∨ i = 1 ∨ i = 2 := by omega
  rcases this with rfl | rfl | rfl
  · exact ⟨a, rfl, .inl rfl⟩
  · exact ⟨b, rfl, .inr (.inl rfl)⟩
  · exact ⟨c, rfl, .inr (.inr rfl)⟩
theorem at4 {a b c d i : Int} (h0 : 0 ≤ i) (h1 : i < 4) : ∃ x, atI [a, b, c, d] i = some x ∧ (x = a ∨ x = b ∨ x = c ∨ x = d) := by
  have : i = 0 ∨ i = 1 ∨ i = 2 ∨ i = 3 := by omega
  rcases this with rfl | rfl | rfl | rfl
  · exact ⟨a, rfl, .inl rfl⟩
  · exact ⟨b, rfl, .inr (.inl rfl)⟩
  · exact ⟨c, rfl, .inr (.inr (.inl rfl))⟩
  · exact ⟨d, rfl, .inr (.inr (.inr rfl))⟩
end Law

/-! a whole number from one to another -/
namespace Law
open PySem L2 DL
def inR (lo hi : Int) : D → Bool
  | .int i => decide (lo ≤ i) && decide (i ≤ hi)
  | _ => false
theorem within_D (x : D) (lo hi : Int) : T_is_within x (eI lo) (eI hi) = .ok (inR lo hi x) := by
  cases x with
  | int i => exact within_int i lo hi
  | _ => unfold T_is_within T_is_whole; rfl
end Law

/-! ways to the root, typed -/
namespace Law
open PySem L2 DL
theorem goal_T (sps : List Sp) (hn : (sps.map (·.2.1)).Nodup) (hl : sps.length < 16777216) : T_spans_by_goal sps = .ok (KD sps 0) := by
  unfold T_spans_by_goal
  obtain ⟨s', e, h⟩ := foldQ_pre (f := fun (x : Int × Sp) (s : List (Int × Int)) => (Q.of (roomT s.length)).bind fun _ => .ok (putT s x.2.2.1 x.1)) (fun d s => s = KD (d.map (·.2)) 0) (xs := enumT 0 sps) (s := []) [] (fun d x r s e hi => by
    obtain ⟨h1, r', h2⟩ := enumT_get 0 d x r sps (by simpa using e)
    subst hi
    have hlen : d.length < 16777216 := by
      have := congrArg List.length h2; simp at this; omega
    refine ⟨_, ?_, rfl⟩
    simp only [Q.of_some, Q.ok_bind, roomT_ok (show (KD (d.map (·.2)) 0).length < 16777216 by rw [KD_len]; simpa using hlen)]
    rw [putT_new, List.map_append, List.map_singleton, KD_app, h1]
    · simp
    · rw [KD_keys]
      rw [h2, List.map_append, List.nodup_append] at hn
      intro z
      exact hn.2.2 _ z _ (by simp) rfl) rfl
  rw [show (KD sps 0) = s' by
    rw [h]
    have : ∀ (k : Int) (xs : List Sp), (enumT k xs).map (·.2) = xs := fun k xs => by
      induction xs generalizing k with
      | nil => rfl
      | cons x r ih => simp [enumT, ih]
    simp [this]]
  exact congrArg (fun q => Q.bind q _) e
theorem way_T (sps : List Sp) (m : Int) (hl : sps.length < 900) : T_way_from sps (KD sps 0) m = .ok ((way sps (sps.length + 1) m).map Int.ofNat) := by
  unfold T_way_from
  have loop : ∀ (n fuel : Nat) (m : Int) (is : List Nat), n < fuel → is.length + n = sps.length + 1 → ∃ m', whileS (fun (s_1 : (Int × (List Int))) => .ok ((Option.isSome (getT (KD sps 0) s_1.1)) && (decide (((List.length s_1.2 : Nat) : Int) ≤ ((List.length sps : Nat) : Int))))) (fun (s_1 : (Int × (List Int))) => (Q.of (getT (KD sps 0) s_1.1)).bind fun (v_2 : Int) => (Q.of (roomT (List.length s_1.2))).bind fun _ => (Q.of (getT (KD sps 0) s_1.1)).bind fun (v_3 : Int) => (Q.of (atI sps v_3)).bind fun (v_4 : (Int × Int × Int × Int)) => .ok (v_4.1, (s_1.2 ++ [v_2]))) fuel (m, is.map Int.ofNat) = .ok (m', (is ++ way sps n m).map Int.ofNat) := by
    intro n
    induction n with
    | zero =>
      intro fuel m is hf hi
      cases fuel with
      | zero => omega
      | succ fuel =>
        refine ⟨m, ?_⟩
        have e : ¬ ((is.length : Int) ≤ (sps.length : Int)) := by omega
        rw [while_f, way, List.append_nil]
        simp only [List.length_map, e, decide_false, Bool.and_false]
    | succ n ih =>
      intro fuel m is hf hi
      cases fuel with
      | zero => omega
      | succ fuel =>
        have e : ((is.length : Int) ≤ (sps.length : Int)) := by omega
        have kg : getT (KD sps 0) m = (fnd sps 0 m).map fun p => (p.1 : Int) := KD_get sps 0 m
        cases z : fnd sps 0 m with
        | none =>
          refine ⟨m, ?_⟩
          rw [z] at kg
          rw [while_f (by simp [kg])]
          simp [way, z]
        | some p =>
          obtain ⟨i, s⟩ := p
          obtain ⟨_, h2, h3⟩ := fnd_at sps 0 i m s z
          obtain ⟨m', h⟩ := ih fuel s.1 (is ++ [i]) (by omega) (by simp; omega)
          refine ⟨m', ?_⟩
          rw [z] at kg
          simp only [Option.map] at kg
          have r1 : roomT (is.map Int.ofNat).length = some () := roomT_ok (by simp; omega)
          have r2 : atI sps (i : Int) = some s := by rw [atI_n]; simpa using h2
          have hw : way sps (n + 1) m = i :: way sps n s.1 := by simp only [way, z]
          rw [while_t (s' := (s.1, (is ++ [i]).map Int.ofNat))]
          · rw [hw, h]; simp
          · simp only [kg, Option.isSome, Bool.true_and, List.length_map, e, decide_true]
          · simp only [kg, Q.of_some, Q.ok_bind, r1, r2, List.map_append]; rfl
  obtain ⟨m', h⟩ := loop (sps.length + 1) fuelW m [] (by unfold fuelW; omega) (by simp)
  simp only [List.map_nil, List.nil_append] at h
  exact (congrArg (fun q => Q.bind q _) h)
/-- the way of a mark, as the program has it -/
def wayI (sps : List Sp) (m : Int) : List Int := (way sps (sps.length + 1) m).map Int.ofNat
theorem froms_T {b : Bk} (hb : BkOk b) : T_froms b = .ok (KD b.2.2.1 0) := by
  unfold T_froms
  rw [goal_T _ hb.nd (by have := hb.sl; omega)]; rfl
theorem ways_T {b : Bk} (hb : BkOk b) : T_ways_of b = .ok ((irange 0 b.2.1).map (wayI b.2.2.1)) := by
  unfold T_ways_of
  have n1 := hb.n1; have n0 := hb.n0
  rw [froms_T hb, Q.ok_bind, rgT0 (by omega) (by omega), Q.of_some, Q.ok_bind, compQ_fun (wayI b.2.2.1) (fun x _ => by rw [way_T _ _ (by have := hb.sl; omega)]; rfl)]
  rfl
theorem ways_at {b : Bk} (hb : BkOk b) {m : Int} (h0 : 0 ≤ m) (h1 : m < b.2.1) : atI ((irange 0 b.2.1).map (wayI b.2.2.1)) m = some (wayI b.2.2.1 m) := by
  rw [atI_ok h0 (by simp [irange_len]; omega), List.getElem_map]
  congr 2
  have := irange_get (i := 0) (j := b.2.1) (k := m.toNat) (by omega)
  rw [List.getElem?_eq_getElem (by simp [irange_len]; omega)] at this
  rw [Option.some.inj this]; omega
/-- the root of a mark -/
def rootI (sps : List Sp) (m : Int) : Int := (rootM sps (sps.length + 1) m).getD m
theorem rootI_eq {sps : List Sp} (ha : Acyc sps) (m : Int) : rootM sps (sps.length + 1) m = some (rootI sps m) := by
  have := acyc_root ha m
  unfold rootI
  cases e : rootM sps (sps.length + 1) m with
  | none => rw [e] at this; cases this
  | some x => rfl
theorem way_fold {sps : List Sp} {α : Type} (f : Int → α → Q α) (e : Int → α) (hf : ∀ (i : Nat) (s : Sp) (a : α), sps[i]? = some s → f (Int.ofNat i) a = .ok (e s.1)) : ∀ (k : Nat) (m x : Int), rootM sps k m = some x → foldQ ((way sps k m).map Int.ofNat) (e m) f = .ok (e x)
  | 0, _, _, h => by simp [rootM] at h
  | k + 1, m, x, h => by
    unfold rootM at h
    cases z : fnd sps 0 m with
    | none => simp only [z, Option.some.injEq] at h; subst h; simp only [way, z]; rfl
    | some p =>
      obtain ⟨j, s⟩ := p
      simp only [z] at h
      have hw : way sps (k + 1) m = j :: way sps k s.1 := by simp only [way, z]
      obtain ⟨_, h2, h3⟩ := fnd_at sps 0 j m s z
      rw [hw, List.map_cons, foldQ, hf j s _ (by simpa using h2), Q.ok_bind]
      exact way_fold f e hf k s.1 x h
end Law

/-! chosen and root of books -/
namespace Law
open PySem L2 DL
theorem rootM_top {sps : List Sp} : ∀ (k : Nat) (m x : Int), rootM sps k m = some x → fnd sps 0 x = none
  | 0, _, _, h => by simp [rootM] at h
  | k + 1, m, x, h => by
    unfold rootM at h
    cases z : fnd sps 0 m with
    | none => simp only [z, Option.some.injEq] at h; rw [← h]; exact z
    | some p => simp only [z] at h; exact rootM_top k _ x h
theorem rootI_none {sps : List Sp} {m : Int} (h : fnd sps 0 m = none) : rootI sps m = m := by
  unfold rootI rootM; simp only [h, Option.getD_some]
theorem rootI_step {sps : List Sp} (ha : Acyc sps) {m : Int} {i : Nat} {s : Sp} (h : fnd sps 0 m = some (i, s)) : rootI sps m = rootI sps s.1 := by
  have e := rootI_eq ha m
  unfold rootM at e
  simp only [h] at e
  exact (root_same _ _ _ _ _ e (rootI_eq ha s.1)).2
theorem chosen_ok {b : Bk} (hb : BkOk b) : T_chosen b = .ok ((irange 1 b.2.1).filter fun m => !(getT (KD b.2.2.1 0) m).isSome) := by
  unfold T_chosen
  have n1 := hb.n1; have n0 := hb.n0
  rw [show ((eT4 eI eI (eV (eT4 eI eI eI eI)) (eV (eT3 eI eI eI))) b) = eBk b from rfl, check_book_ok hb, Q.ok_bind, froms_T hb, Q.ok_bind, rgT_ok (by omega) (by omega) (by omega) (by omega) (by omega), Q.of_some, Q.ok_bind,
    compQ_if (fun m => !(getT (KD b.2.2.1 0) m).isSome) id (fun x _ => by
      cases (getT (KD b.2.2.1 0) x).isSome <;> rfl), Q.ok_bind, List.map_id]
theorem root_ok {b : Bk} (hb : BkOk b) {m : Int} (h0 : 0 ≤ m) (h1 : m < b.2.1) : T_root b (eI m) = .ok (eI (rootI b.2.2.1 m)) := by
  unfold T_root
  rw [show ((eT4 eI eI (eV (eT4 eI eI eI eI)) (eV (eT3 eI eI eI))) b) = eBk b from rfl, check_book_ok hb, Q.ok_bind]
  have e1 : T_check_mark b (eI m) = .ok () := by
    unfold T_check_mark
    rw [within_D, Q.ok_bind]
    have : inR 0 (b.2.1 - 1) (eI m) = true := by simp [inR, eI]; omega
    rw [this]; rfl
  rw [e1, Q.ok_bind, ways_T hb, Q.ok_bind, show atX ((irange 0 b.2.1).map (wayI b.2.2.1)) (eI m) = atI ((irange 0 b.2.1).map (wayI b.2.2.1)) m from rfl, ways_at hb h0 h1, Q.of_some, Q.ok_bind]
  have := way_fold (sps := b.2.2.1) (α := D) (fun (x_5 : Int) (s_6 : D) => (Q.of (atI b.2.2.1 x_5)).bind fun (v_7 : (Int × Int × Int × Int)) => .ok (eI v_7.1)) eI (fun i s a h => by
    rw [show atI b.2.2.1 (Int.ofNat i) = some s from (atI_n _ i).trans h]; rfl) _ m _ (rootI_eq hb.ac m)
  exact congrArg (fun q => Q.bind q _) this
end Law

/-! is_book of things of any kind -/
namespace Law
open PySem L2 DL
/-- a truth that says just whether P -/
def Tells (q : Q Bool) (P : Prop) : Prop := ∃ k : Bool, q = .ok k ∧ (k = true ↔ P)
theorem Tells.no {q : Q Bool} {P : Prop} (h : q = .ok false) (hp : ¬ P) : Tells q P := ⟨false, h, by simp [hp]⟩
theorem Tells.yes {q : Q Bool} {P : Prop} (h : q = .ok true) (hp : P) : Tells q P := ⟨true, h, by simp [hp]⟩
theorem Tells.of {q : Q Bool} {k : Bool} {P : Prop} (h : q = .ok k) (hp : k = true ↔ P) : Tells q P := ⟨k, h, hp⟩
theorem inR_iff {lo hi : Int} {d : D} : inR lo hi d = true ↔ ∃ i, d = .int i ∧ lo ≤ i ∧ i ≤ hi := by
  cases d with
  | int i => simp [inR]
  | _ => simp [inR]
theorem tup_inj {xs ys : List D} (h : PyData.tuple xs = PyData.tuple ys) : xs = ys := by injection h
theorem int_inj {a b : Int} (h : PyData.int a = PyData.int b) : a = b := by injection h
theorem len4 {ds : List D} (h : ds.length = 4) : ∃ x y z w, ds = [x, y, z, w] := by
  match ds, h with
  | [x, y, z, w], _ => exact ⟨x, y, z, w, rfl⟩
theorem len3 {ds : List D} (h : ds.length = 3) : ∃ x y z, ds = [x, y, z] := by
  match ds, h with
  | [x, y, z], _ => exact ⟨x, y, z, rfl⟩
def IsSp (e n : Int) (d : D) : Prop := ∃ s : Sp, d = eSp s ∧ SpOk e n s
def IsBd (n : Int) (d : D) : Prop := ∃ s : Bd, d = eBd s ∧ BdOk n s
theorem isSp_tup {e n : Int} {x y z w : D} (h : IsSp e n (.tuple [x, y, z, w])) : ∃ s : Sp, x = .int s.1 ∧ y = .int s.2.1 ∧ z = .int s.2.2.1 ∧ w = .int s.2.2.2 ∧ SpOk e n s := by
  obtain ⟨s, h, ok⟩ := h
  have h := tup_inj h
  injection h with h1 h; injection h with h2 h; injection h with h3 h; injection h with h4 h
  exact ⟨s, h1, h2, h3, h4, ok⟩
theorem isBd_tup {n : Int} {x y z : D} (h : IsBd n (.tuple [x, y, z])) : ∃ s : Bd, x = .int s.1 ∧ y = .int s.2.1 ∧ z = .int s.2.2 ∧ BdOk n s := by
  obtain ⟨s, h, ok⟩ := h
  have h := tup_inj h
  injection h with h1 h; injection h with h2 h; injection h with h3 h
  exact ⟨s, h1, h2, h3, ok⟩
theorem span_D (e n : Int) (d : D) : Tells (T_is_span d (.int e) (.int n)) (IsSp e n d) := by
  cases d with
  | tuple ds =>
    by_cases hl : ds.length = 4
    · obtain ⟨x, y, z, w, rfl⟩ := len4 hl
      have e0 : isiD "tuple" (eD (PyData.tuple [x, y, z, w])) = true := rfl
      have e1 : lenT (eD (PyData.tuple [x, y, z, w])) = some 4 := rfl
      have e2 : un4 (PyData.tuple [x, y, z, w]) = some (x, y, z, w) := rfl
      have e3 : subD (eD (PyData.int n)) (eI 1) = some (eI (n - 1)) := rfl
      unfold T_is_span
      simp only [e0, e1, e2, e3, Bool.not_true, Bool.false_eq_true, if_false, Q.of_some, Q.ok_bind, decide_true, within_D, Q.ok_noX]
      cases c1 : inR 0 (n - 1) x with
      | false =>
        refine .no (by simp) fun h => ?_
        obtain ⟨s, rfl, _, _, _, ok⟩ := isSp_tup h
        have := inR_iff.mpr ⟨s.1, rfl, ok.a0, ok.a1⟩; rw [c1] at this; cases this
      | true =>
        cases c2 : inR 1 (n - 1) y with
        | false =>
          refine .no (by simp) fun h => ?_
          obtain ⟨s, _, rfl, _, _, ok⟩ := isSp_tup h
          have := inR_iff.mpr ⟨s.2.1, rfl, ok.g0, ok.g1⟩; rw [c2] at this; cases this
        | true =>
          obtain ⟨a, rfl, a0, a1⟩ := inR_iff.mp c1
          obtain ⟨c, rfl, g0, g1⟩ := inR_iff.mp c2
          have e4 : eqB (eD (PyData.int a)) (eD (PyData.int c)) = some (a == c) := eqB_int _ _
          simp only [e4, Bool.not_true, Bool.false_eq_true, if_false, Q.of_some, Q.ok_bind]
          by_cases hac : a = c
          · exact .no (by simp [hac]) fun h => by
              obtain ⟨s, h1, h2, _, _, ok⟩ := isSp_tup h
              exact ok.ne (by rw [← int_inj h1, ← int_inj h2, hac])
          · have : (a == c) = false := by simpa using hac
            simp only [this, Bool.false_eq_true, if_false]
            cases c3 : inR 1 e w with
            | false =>
              refine .no (by simp) fun h => ?_
              obtain ⟨s, _, _, _, rfl, ok⟩ := isSp_tup h
              have : inR 1 e (.int s.2.2.2) = true := inR_iff.mpr ⟨s.2.2.2, rfl, by have := ok.l0; have := ok.lm; omega, ok.me⟩; rw [c3] at this; cases this
            | true =>
              obtain ⟨m, rfl, m0, m1⟩ := inR_iff.mp c3
              simp only [if_true, Q.ok_bind]
              rw [show PyData.int m = eI m from rfl, within_D]
              simp only [Q.ok_bind]
              refine .of rfl ?_
              constructor
              · intro c4
                obtain ⟨l, rfl, l0, l1⟩ := inR_iff.mp c4
                exact ⟨(a, c, l, m), rfl, ⟨a0, a1, g0, g1, hac, l0, l1, m1⟩⟩
              · intro h
                obtain ⟨s, _, _, rfl, h4, ok⟩ := isSp_tup h
                have := int_inj h4
                exact inR_iff.mpr ⟨_, rfl, ok.l0, by rw [this]; exact ok.lm⟩
    · have e0 : isiD "tuple" (eD (PyData.tuple ds)) = true := rfl
      have e1 : lenT (eD (PyData.tuple ds)) = some (ds.length : Int) := rfl
      refine .no ?_ fun ⟨s, h, _⟩ => hl (by rw [tup_inj h]; rfl)
      have : decide ((ds.length : Int) = 4) = false := decide_eq_false (by omega)
      unfold T_is_span
      simp only [e0, e1, this, Bool.not_true, Bool.not_false, Bool.false_eq_true, if_false, if_true, Q.of_some, Q.ok_bind]
  | _ => exact .no (by unfold T_is_span; rfl) fun ⟨s, h, _⟩ => by cases h
theorem bound_D (n : Int) (d : D) : Tells (T_is_bound d (.int n)) (IsBd n d) := by
  cases d with
  | tuple ds =>
    by_cases hl : ds.length = 3
    · obtain ⟨x, y, z, rfl⟩ := len3 hl
      have e0 : isiD "tuple" (eD (PyData.tuple [x, y, z])) = true := rfl
      have e1 : lenT (eD (PyData.tuple [x, y, z])) = some 3 := rfl
      have e2 : un3 (PyData.tuple [x, y, z]) = some (x, y, z) := rfl
      have e3 : subD (eD (PyData.int n)) (eI 1) = some (eI (n - 1)) := rfl
      unfold T_is_bound
      simp only [e0, e1, e2, e3, Bool.not_true, Bool.false_eq_true, if_false, Q.of_some, Q.ok_bind, decide_true, within_D, Q.ok_noX]
      cases c1 : inR 0 (n - 1) x with
      | false =>
        refine .no (by simp) fun h => ?_
        obtain ⟨s, rfl, _, _, ok⟩ := isBd_tup h
        have := inR_iff.mpr ⟨s.1, rfl, ok.a0, ok.a1⟩; rw [c1] at this; cases this
      | true =>
        cases c2 : inR 0 (n - 1) y with
        | false =>
          refine .no (by simp) fun h => ?_
          obtain ⟨s, _, rfl, _, ok⟩ := isBd_tup h
          have := inR_iff.mpr ⟨s.2.1, rfl, ok.b0, ok.b1⟩; rw [c2] at this; cases this
        | true =>
          obtain ⟨a, rfl, a0, a1⟩ := inR_iff.mp c1
          obtain ⟨c, rfl, g0, g1⟩ := inR_iff.mp c2
          have e4 : eqB (eD (PyData.int a)) (eD (PyData.int c)) = some (a == c) := eqB_int _ _
          simp only [e4, Bool.not_true, Bool.false_eq_true, if_false, Q.of_some, Q.ok_bind]
          by_cases hac : a = c
          · exact .no (by simp [hac]) fun h => by
              obtain ⟨s, h1, h2, _, ok⟩ := isBd_tup h
              exact ok.ne (by rw [← int_inj h1, ← int_inj h2, hac])
          · have : (a == c) = false := by simpa using hac
            simp only [this, Bool.false_eq_true, if_false]
            refine .of rfl ?_
            constructor
            · intro c4
              obtain ⟨l, rfl, l0, l1⟩ := inR_iff.mp c4
              exact ⟨(a, c, l), rfl, ⟨a0, a1, g0, g1, hac, l0, l1⟩⟩
            · intro h
              obtain ⟨s, _, _, rfl, ok⟩ := isBd_tup h
              exact inR_iff.mpr ⟨_, rfl, ok.w0, ok.w1⟩
    · have e0 : isiD "tuple" (eD (PyData.tuple ds)) = true := rfl
      have e1 : lenT (eD (PyData.tuple ds)) = some (ds.length : Int) := rfl
      refine .no ?_ fun ⟨s, h, _⟩ => hl (by rw [tup_inj h]; rfl)
      have : decide ((ds.length : Int) = 3) = false := decide_eq_false (by omega)
      unfold T_is_bound
      simp only [e0, e1, this, Bool.not_true, Bool.not_false, Bool.false_eq_true, if_false, if_true, Q.of_some, Q.ok_bind]
  | _ => exact .no (by unfold T_is_bound; rfl) fun ⟨s, h, _⟩ => by cases h
/-- asked of each -/
theorem all_tells {f : D → Q Bool} {P : D → Prop} (h : ∀ d, Tells (f d) (P d)) (ds : List D) : Tells ((compQ (γ := Bool) ds (() : Unit) (fun x s => (f x).bind fun r => .ok (some r, ()))).bind fun c => .ok (List.all c.1 id)) (∀ d ∈ ds, P d) := by
  obtain ⟨g, hg⟩ := Classical.axiomOfChoice (r := fun d (k : Bool) => f d = .ok k ∧ (k = true ↔ P d)) h
  rw [compQ_fun g (fun x _ => by rw [(hg x).1]; rfl), Q.ok_bind]
  refine .of rfl ?_
  rw [List.all_map, List.all_eq_true]
  exact forall_congr' fun d => forall_congr' fun _ => (hg d).2
theorem choose_mem {α : Type} {xs : List α} {P : α → Bool → Prop} (h : ∀ x ∈ xs, ∃ k, P x k) : ∃ g : α → Bool, ∀ x ∈ xs, P x (g x) := by
  have h' : ∀ x, ∃ k, x ∈ xs → P x k := fun x => by
    by_cases hx : x ∈ xs
    · obtain ⟨k, hk⟩ := h x hx; exact ⟨k, fun _ => hk⟩
    · exact ⟨true, fun z => absurd z hx⟩
  obtain ⟨g, hg⟩ := Classical.axiomOfChoice h'
  exact ⟨g, fun x hx => hg x hx⟩
theorem each_of {α : Type} {P : α → Prop} {e : α → D} : ∀ {ds : List D}, (∀ d ∈ ds, ∃ s, d = e s ∧ P s) → ∃ ss : List α, ds = ss.map e ∧ ∀ s ∈ ss, P s
  | [], _ => ⟨[], rfl, fun s h => by simp at h⟩
  | d :: r, h => by
    obtain ⟨s, rfl, hs⟩ := h d List.mem_cons_self
    obtain ⟨ss, rfl, hss⟩ := each_of fun d hd => h d (List.mem_cons_of_mem _ hd)
    exact ⟨s :: ss, rfl, fun t ht => by
      rcases List.mem_cons.mp ht with rfl | ht
      · exact hs
      · exact hss t ht⟩
theorem putT_old {m : List (Int × Int)} {k v : Int} (h : k ∈ m.map (fun p => p.1)) : (putT m k v).length = m.length ∧ (putT m k v).map (fun p => p.1) = m.map (fun p => p.1) := by
  unfold putT
  rw [if_pos (by
    simp only [List.any_eq_true, decide_eq_true_eq]
    obtain ⟨p, hp, e⟩ := List.mem_map.mp h
    exact ⟨p, hp, e⟩)]
  constructor
  · simp
  · rw [List.map_map]
    refine List.map_congr_left fun p hp => ?_
    simp only [Function.comp]
    split
    · rfl
    · rfl
theorem goal_D (sps : List Sp) (hl : sps.length < 1000) : ∃ r, T_spans_by_goal_D (eV eSp sps) = .ok r ∧ r.length ≤ sps.length ∧ (r.length = sps.length → (sps.map (·.2.1)).Nodup) := by
  unfold T_spans_by_goal_D
  simp only [eV, itT, Q.of_some, Q.ok_bind, enumT_map, foldQ_map]
  obtain ⟨s', e, h⟩ := foldQ_pre (f := fun (x : Int × Sp) (s : List (Int × Int)) => (Q.of (ixD (eSp x.2) (eI 1))).bind fun v => (Q.of (keyI v)).bind fun k => (Q.of (roomT s.length)).bind fun _ => .ok (putT s k x.1)) (fun d s => s.length ≤ d.length ∧ (s.length = d.length → ((d.map (·.2)).map (·.2.1)).Nodup) ∧ ∀ k, k ∈ s.map (fun p => p.1) ↔ k ∈ (d.map (·.2)).map (·.2.1)) (xs := enumT 0 sps) (s := []) [] (fun d x r s e hi => by
    obtain ⟨h1, r', h2⟩ := enumT_get 0 d x r sps (by simpa using e)
    obtain ⟨i1, i2, i3⟩ := hi
    have hlen : d.length < 1000 := by
      have := congrArg List.length h2; simp at this; omega
    have e1 : ixD (eSp x.2) (eI 1) = some (.int x.2.2.1) := rfl
    refine ⟨putT s x.2.2.1 x.1, ?_, ?_⟩
    · simp only [e1, Q.of_some, Q.ok_bind, keyI, roomT_ok (show s.length < 16777216 by omega)]
    · by_cases hk : x.2.2.1 ∈ s.map (fun p => p.1)
      · obtain ⟨q1, q2⟩ := putT_old (v := x.1) hk
        refine ⟨by simp; omega, fun q => by simp at q; omega, fun k => ?_⟩
        rw [q2, i3]
        simp only [List.map_append, List.mem_append, List.map_cons, List.map_nil, List.mem_singleton]
        constructor
        · exact .inl
        · rintro (z | rfl)
          · exact z
          · exact (i3 _).mp hk
      · rw [putT_new hk]
        refine ⟨by simp; omega, fun q => ?_, fun k => ?_⟩
        · rw [List.map_append, List.map_append, List.nodup_append]
          refine ⟨i2 (by simpa using q), by simp, fun a ha b hb => ?_⟩
          simp at hb
          subst hb
          intro e
          subst e
          exact hk ((i3 _).mpr ha)
        · simp only [List.map_append, List.mem_append, List.map_cons, List.map_nil, List.mem_singleton, i3]) ⟨by simp, by simp, by simp⟩
  have hm : ∀ (k : Int) (xs : List Sp), (enumT k xs).map (·.2) = xs ∧ (enumT k xs).length = xs.length := fun k xs => by
    induction xs generalizing k with
    | nil => exact ⟨rfl, rfl⟩
    | cons x r ih => exact ⟨by simp [enumT, ih], by simp [enumT, ih]⟩
  simp only [List.nil_append, hm] at h
  exact ⟨s', by exact congrArg (fun q => Q.bind q _) e, h.1, h.2.1⟩
def SpsIs (e n : Int) (sps : List Sp) : Prop := sps.length ≤ 4 ∧ (∀ s ∈ sps, SpOk e n s) ∧ (sps.map (·.2.1)).Nodup ∧ Acyc sps
theorem acyc_iff {sps : List Sp} : Acyc sps ↔ ∀ m ∈ sps.map (·.2.1), (way sps (sps.length + 1) m).length ≤ sps.length := by
  constructor
  · intro h m _
    have := (way_le (sps := sps) (sps.length + 1) m).1 (acyc_root h m)
    omega
  · intro h m
    by_cases hm : m ∈ sps.map (·.2.1)
    · have := (way_le (sps := sps) (sps.length + 1) m).2 (by have := h m hm; omega)
      cases e : rootM sps (sps.length + 1) m with
      | none => rw [e] at this; cases this
      | some x => exact ⟨_, x, e⟩
    · have := (fnd_none sps 0 m).mpr hm
      exact ⟨1, m, by unfold rootM; simp only [this]⟩
theorem spans_D (e n : Int) (d : D) : Tells (T_are_spans d (.int e) (.int n)) (∃ sps, d = eV eSp sps ∧ SpsIs e n sps) := by
  have nt : ∀ d : D, isiD "tuple" (eD d) = false → Tells (T_are_spans d (.int e) (.int n)) (∃ sps, d = eV eSp sps ∧ SpsIs e n sps) := fun d hd => by
    refine .no (by unfold T_are_spans; rw [hd]; rfl) fun ⟨s, h, _⟩ => ?_
    subst h; cases hd
  cases d with
  | tuple ds =>
    have e0 : isiD "tuple" (eD (PyData.tuple ds)) = true := rfl
    have e1 : lenT (eD (PyData.tuple ds)) = some (ds.length : Int) := rfl
    have e2 : itT (PyData.tuple ds) = some ds := rfl
    by_cases hl : (4 : Int) < ds.length
    · refine .no ?_ fun ⟨s, h, h4, _⟩ => ?_
      · unfold T_are_spans
        simp only [e0, e1, hl, decide_true, Bool.not_true, Bool.false_eq_true, if_false, if_true, Q.of_some, Q.ok_bind]
      · rw [tup_inj h, List.length_map] at hl; omega
    · unfold T_are_spans
      simp only [e0, e1, e2, hl, decide_false, Bool.not_true, Bool.false_eq_true, if_false, Q.of_some, Q.ok_bind]
      obtain ⟨k, ek, hk⟩ := all_tells (span_D e n) ds
      generalize compQ ds () (fun (x_4 : D) (s_5 : Unit) => (T_is_span x_4 (.int e) (.int n)).bind fun (r_6 : Bool) => Q.ok (some r_6, ())) = qc at ek
      cases qc with
      | bad => cases ek
      | exc x os => cases ek
      | ok c =>
        rw [Q.ok_bind] at ek ⊢
        have ek : c.1.all id = k := by injection ek
        rw [ek]
        cases k with
        | false =>
          refine .no (by simp) fun ⟨sps, h, _, h2, _⟩ => ?_
          have := hk.mpr fun d hd => by
            rw [tup_inj h] at hd
            obtain ⟨s, hs, rfl⟩ := List.mem_map.mp hd
            exact ⟨s, rfl, h2 s hs⟩
          cases this
        | true =>
          obtain ⟨sps, rfl, hs⟩ := each_of (hk.mp rfl)
          have inj : ∀ s' : List Sp, PyData.tuple (sps.map eSp) = eV eSp s' → s' = sps := fun s' h => by
            have := tup_inj h
            exact (List.map_inj_right (fun a b h => by
              have h := tup_inj h
              obtain ⟨a1, a2, a3, a4⟩ := a
              obtain ⟨b1, b2, b3, b4⟩ := b
              injection h with h1 h; injection h with h2 h; injection h with h3 h; injection h with h4 h
              have h1 : a1 = b1 := int_inj h1; have h2 : a2 = b2 := int_inj h2; have h3 : a3 = b3 := int_inj h3; have h4 : a4 = b4 := int_inj h4
              rw [h1, h2, h3, h4])).mp this.symm
          have hl : sps.length ≤ 4 := by simp at hl; omega
          obtain ⟨r, er, hr, hn⟩ := goal_D sps (by omega)
          simp only [Bool.not_true, Bool.false_eq_true, if_false]
          rw [show (PyData.tuple (sps.map eSp)) = eV eSp sps from rfl, er, Q.ok_bind]
          rw [List.length_map]
          by_cases hnd : (sps.map (·.2.1)).Nodup
          · have := goal_ok sps hnd (by omega)
            rw [this] at er
            have er : KD sps 0 = r := by injection er
            subst er
            have l1 : ((KD sps 0).length : Int) = (sps.length : Int) := by rw [KD_len]
            simp only [l1, decide_true, if_true]
            rw [compQ_fun (fun m => decide (((way sps (sps.length + 1) m).length : Int) ≤ (sps.length : Int))) (fun x _ => by
              rw [way_ok sps x (by omega)]
              simp only [Q.ok_bind, eD, lenT_V, Q.of_some, List.length_map]), Q.ok_bind, Q.ok_bind]
            refine .of rfl ?_
            rw [List.all_map, List.all_eq_true]
            constructor
            · intro h
              refine ⟨sps, rfl, hl, hs, hnd, acyc_iff.mpr fun m hm => ?_⟩
              have := h m (by rw [show (fun p : Int × Int => p.1) = fun p => p.1 from rfl, KD_keys]; exact hm)
              simpa using this
            · rintro ⟨s', h, h1, h2, h3, h4⟩ m hm
              rw [inj s' h] at h4
              have := acyc_iff.mp h4 m (by rw [KD_keys] at hm; exact hm)
              simpa using this
          · have : decide (((r.length : Nat) : Int) = (sps.length : Int)) = false := decide_eq_false (by
              intro z; exact hnd (hn (by omega)))
            refine .no (by simp only [this, Bool.false_eq_true, if_false, Q.ok_bind]) fun ⟨s', h, h1, h2, h3, h4⟩ => ?_
            rw [inj s' h] at h3
            exact hnd h3
  | _ => exact nt _ rfl
def IsBk (d : D) : Prop := ∃ b : Bk, d = eBk b ∧ BkOk b
theorem isBk_tup {x y z w : D} (h : IsBk (.tuple [x, y, z, w])) : ∃ b : Bk, x = .int b.1 ∧ y = .int b.2.1 ∧ z = eV eSp b.2.2.1 ∧ w = eV eBd b.2.2.2 ∧ BkOk b := by
  obtain ⟨s, h, ok⟩ := h
  have h := tup_inj h
  injection h with h1 h; injection h with h2 h; injection h with h3 h; injection h with h4 h
  exact ⟨s, h1, h2, h3, h4, ok⟩
theorem book_D (d : D) : Tells (T_is_book d) (IsBk d) := by
  cases d with
  | tuple ds =>
    have e0 : isiD "tuple" (eD (PyData.tuple ds)) = true := rfl
    have e1 : lenT (eD (PyData.tuple ds)) = some (ds.length : Int) := rfl
    by_cases hl : ds.length = 4
    · obtain ⟨x, y, z, w, rfl⟩ := len4 hl
      have e2 : un4 (PyData.tuple [x, y, z, w]) = some (x, y, z, w) := rfl
      unfold T_is_book
      simp only [e0, e1, e2, List.length_cons, List.length_nil, Bool.not_true, Bool.false_eq_true, if_false, Q.of_some, Q.ok_bind, within_D]
      have e3 : decide (((0 + 1 + 1 + 1 + 1 : Nat) : Int) = 4) = true := rfl
      simp only [e3, Bool.not_true, Bool.false_eq_true, if_false]
      cases c1 : inR 1 60 x with
      | false =>
        refine .no (by simp) fun h => ?_
        obtain ⟨s, rfl, _, _, _, ok⟩ := isBk_tup h
        have := inR_iff.mpr ⟨s.1, rfl, ok.e0, ok.e1⟩; rw [c1] at this; cases this
      | true =>
        cases c2 : inR 1 10 y with
        | false =>
          refine .no (by simp) fun h => ?_
          obtain ⟨s, _, rfl, _, _, ok⟩ := isBk_tup h
          have := inR_iff.mpr ⟨s.2.1, rfl, ok.n0, ok.n1⟩; rw [c2] at this; cases this
        | true =>
          obtain ⟨e, rfl, e0', e1'⟩ := inR_iff.mp c1
          obtain ⟨n, rfl, n0, n1⟩ := inR_iff.mp c2
          obtain ⟨k, ek, hk⟩ := spans_D e n z
          simp only [Bool.not_true, Bool.false_eq_true, if_false, ek, Q.ok_bind]
          cases k with
          | false =>
            refine .no (by simp) fun h => ?_
            obtain ⟨s, h1, h2, rfl, _, ok⟩ := isBk_tup h
            have := hk.mpr ⟨s.2.2.1, rfl, ok.sl, by rw [int_inj h1, int_inj h2]; exact ok.so, ok.nd, ok.ac⟩
            cases this
          | true =>
            obtain ⟨sps, rfl, s1, s2, s3, s4⟩ := hk.mp rfl
            simp only [Bool.not_true, Bool.false_eq_true, if_false]
            have nt : isiD "tuple" (eD w) = false → Tells (Q.bind (α := Bool) ((if (!(isiD "tuple" (eD w))) = true then .ok true else (Q.of (lenT (eD w))).bind fun (v_8 : Int) => .ok (decide (30 < v_8)))) fun s_9 => (if s_9 = true then .ok false else (Q.of (itT w)).bind fun (xs_10 : List D) => (compQ (γ := Bool) xs_10 (() : Unit) (fun (x_11 : D) (s_12 : Unit) => (T_is_bound x_11 (.int n)).bind fun (r_13 : Bool) => .ok (some r_13, ()))).bind fun c_14 => .ok (List.all c_14.1 id))) (IsBk (.tuple [.int e, .int n, eV eSp sps, w])) := fun hd => by
              refine .no (by rw [hd]; rfl) fun h => ?_
              obtain ⟨s, _, _, _, rfl, ok⟩ := isBk_tup h
              cases hd
            cases w with
            | tuple ws =>
              have f0 : isiD "tuple" (eD (PyData.tuple ws)) = true := rfl
              have f1 : lenT (eD (PyData.tuple ws)) = some (ws.length : Int) := rfl
              have f2 : itT (PyData.tuple ws) = some ws := rfl
              simp only [f0, f1, f2, Bool.not_true, Bool.false_eq_true, if_false, Q.of_some, Q.ok_bind]
              by_cases h30 : (30 : Int) < ws.length
              · refine .no (by simp [h30]) fun h => ?_
                obtain ⟨s, _, _, _, h4, ok⟩ := isBk_tup h
                have := ok.bl
                rw [tup_inj h4, List.length_map] at h30; omega
              · simp only [h30, decide_false, Bool.false_eq_true, if_false]
                obtain ⟨k, ek, hk⟩ := all_tells (bound_D n) ws
                refine ⟨k, ek, hk.trans ?_⟩
                constructor
                · intro h
                  obtain ⟨bds, rfl, hb⟩ := each_of h
                  exact ⟨(e, n, sps, bds), rfl, ⟨e0', e1', n0, n1, s1, s2, s3, s4, by simp at h30 ⊢; omega, hb⟩⟩
                · intro h d hd
                  obtain ⟨s, h1, h2, h3, h4, ok⟩ := isBk_tup h
                  rw [tup_inj h4] at hd
                  obtain ⟨t, ht, rfl⟩ := List.mem_map.mp hd
                  exact ⟨t, rfl, by rw [int_inj h2]; exact ok.bo t ht⟩
            | _ => exact nt rfl
    · refine .no ?_ fun ⟨s, h, _⟩ => hl (by rw [tup_inj h]; rfl)
      have : decide ((ds.length : Int) = 4) = false := decide_eq_false (by omega)
      unfold T_is_book
      simp only [e0, e1, this, Bool.not_true, Bool.not_false, Bool.false_eq_true, if_false, if_true, Q.of_some, Q.ok_bind]
  | _ => exact .no (by unfold T_is_book; rfl) fun ⟨s, h, _⟩ => by cases h
theorem check_no {d : D} (h : ¬ IsBk d) : T_check_book d = .exc ⟨"NoBook"⟩ [] := by
  unfold T_check_book
  obtain ⟨k, ek, hk⟩ := book_D d
  rw [ek, Q.ok_bind]
  cases k with
  | true => exact absurd (hk.mp rfl) h
  | false => rfl
end Law

/-! k02 -/
namespace Law
open PySem L2 DL
theorem eBk_inj {b c : Bk} (h : eBk b = eBk c) : b = c := by
  obtain ⟨e, n, s, w⟩ := b
  obtain ⟨e', n', s', w'⟩ := c
  have h := tup_inj h
  injection h with h1 h; injection h with h2 h; injection h with h3 h; injection h with h4 h
  have h3 := tup_inj h3; have h4 := tup_inj h4
  have h1 : e = e' := int_inj h1
  have h2 : n = n' := int_inj h2
  have h3 : s = s' := (List.map_inj_right (fun a b h => by
    have h := tup_inj h
    obtain ⟨a1, a2, a3, a4⟩ := a
    obtain ⟨b1, b2, b3, b4⟩ := b
    injection h with h1 h; injection h with h2 h; injection h with h3 h; injection h with h4 h
    have h1 : a1 = b1 := int_inj h1; have h2 : a2 = b2 := int_inj h2; have h3 : a3 = b3 := int_inj h3; have h4 : a4 = b4 := int_inj h4
    rw [h1, h2, h3, h4])).mp h3
  have h4 : w = w' := (List.map_inj_right (fun a b h => by
    have h := tup_inj h
    obtain ⟨a1, a2, a3⟩ := a
    obtain ⟨b1, b2, b3⟩ := b
    injection h with h1 h; injection h with h2 h; injection h with h3 h
    have h1 : a1 = b1 := int_inj h1; have h2 : a2 = b2 := int_inj h2; have h3 : a3 = b3 := int_inj h3
    rw [h1, h2, h3])).mp h4
  rw [h1, h2, h3, h4]
theorem isBk_eBk {b : Bk} : IsBk (eBk b) ↔ BkOk b := ⟨fun ⟨c, e, h⟩ => by rw [eBk_inj e]; exact h, fun h => ⟨b, rfl, h⟩⟩
theorem unSp (sps : List Sp) : unM (unT4 unI unI unI unI) (sps.map eSp) = some sps := by
  induction sps with
  | nil => rfl
  | cons s r ih =>
    have : unT4 unI unI unI unI (eSp s) = some s := rfl
    simp only [List.map_cons, unM, this, Option.bind, ih, Option.map]
theorem unBd (sps : List Bd) : unM (unT3 unI unI unI) (sps.map eBd) = some sps := by
  induction sps with
  | nil => rfl
  | cons s r ih =>
    have : unT3 unI unI unI (eBd s) = some s := rfl
    simp only [List.map_cons, unM, this, Option.bind, ih, Option.map]
theorem unBk (b : Bk) : (unT4 unI unI (unV (unT4 unI unI unI unI)) (unV (unT3 unI unI unI))) (eBk b) = some b := by
  obtain ⟨e, n, s, w⟩ := b
  show ((some e).bind fun x => (some n).bind fun y => (unM (unT4 unI unI unI unI) (s.map eSp)).bind fun z => (unM (unT3 unI unI unI) (w.map eBd)).map fun o => (x, y, z, o)) = _
  rw [unSp, unBd]; rfl
theorem mt : mTab [(("NoBook" : Str), true)] ("NoBook" : Str) = some true := by decide
theorem only_ok : T_law_only (some ⟨"NoBook"⟩) = .ok true := by unfold T_law_only; rfl
theorem refused_ok {b : Bk} (h : ¬ BkOk b) (d : D) : T_law_refused b d = .ok true := by
  unfold T_law_refused T_root
  rw [show ((eT4 eI eI (eV (eT4 eI eI eI eI)) (eV (eT3 eI eI eI))) b) = eBk b from rfl, check_no (fun z => h (isBk_eBk.mp z))]
  simp only [Q.exc_bind]
  rw [tryQ_exc, if_pos mt, Q.ok_noX, Q.lf_nx, only_ok]; rfl
theorem refused_all_ok {b : Bk} (h : ¬ BkOk b) : T_law_refused_all b = .ok true := by
  have hn := check_no (fun z => h (isBk_eBk.mp z))
  unfold T_law_refused_all T_chosen T_show_book
  rw [show ((eT4 eI eI (eV (eT4 eI eI eI eI)) (eV (eT3 eI eI eI))) b) = eBk b from rfl, hn]
  simp only [Q.exc_bind]
  rw [tryQ_exc, if_pos mt, Q.ok_noX, Q.lf_nx, Q.lf_nx, only_ok]; rfl
theorem right_ok {b : Bk} {k : Bool} (h : k = true ↔ BkOk b) : T_law_right b k = .ok true := by
  unfold T_law_right
  obtain ⟨k2, e, h2⟩ := book_D (eBk b)
  have hk : k2 = k := by rw [Bool.eq_iff_iff, h2, h, isBk_eBk]
  subst hk
  rw [show ((eT4 eI eI (eV (eT4 eI eI eI eI)) (eV (eT3 eI eI eI))) b) = eBk b from rfl, e, Q.ok_bind]
  cases k2 with
  | true =>
    have hb := h.mp rfl
    have n0 := hb.n0
    have h0 : rootI b.2.2.1 0 = 0 := rootI_none ((fnd_none _ 0 0).mpr fun hm => by
      obtain ⟨s, hs, e⟩ := List.mem_map.mp hm
      have := (hb.so s hs).g0; omega)
    simp only [Bool.not_true, beq_self_eq_true, Bool.or_self, Bool.false_eq_true, if_false, if_true]
    rw [root_ok hb (by omega) (by omega), Q.ok_bind, h0, show eqB (eD (eI 0)) (eI 0) = some true from eqB_int _ _, Q.of_some, Q.ok_bind, if_pos rfl, chosen_ok hb]
    rfl
  | false =>
    have hb : ¬ BkOk b := fun z => by have := h.mpr z; cases this
    simp only [Bool.not_true, beq_self_eq_true, Bool.or_self, Bool.false_eq_true, if_false, if_true]
    rw [refused_all_ok hb, Q.ok_bind, if_pos rfl, compQ_fun (fun _ => true) (fun x _ => by rw [refused_ok hb]; rfl)]
    rfl
def Gd (d : D) : Prop := ∃ (b : Bk) (k : Bool), d = .tuple [eBk b, .bool k] ∧ (k = true ↔ BkOk b)
theorem gd_yes {b : Bk} (h : BkOk b) : Gd (.tuple [eBk b, .bool true]) := ⟨b, true, rfl, by simp [h]⟩
theorem gd_no {b : Bk} (h : ¬ BkOk b) : Gd (.tuple [eBk b, .bool false]) := ⟨b, false, rfl, by simp [h]⟩
theorem acyc_zero {sps : List Sp} (h : ∀ s ∈ sps, s.1 = 0 ∧ s.2.1 ≠ 0) : Acyc sps := fun m => by
  have h0 : fnd sps 0 0 = none := (fnd_none _ 0 0).mpr fun hm => by
    obtain ⟨s, hs, e⟩ := List.mem_map.mp hm
    exact (h s hs).2 e
  refine ⟨2, ?_⟩
  cases z : fnd sps 0 m with
  | none => exact ⟨m, by unfold rootM; simp only [z]⟩
  | some p =>
    obtain ⟨i, s⟩ := p
    obtain ⟨_, h2, _⟩ := fnd_at sps 0 i m s z
    have := (h s (List.mem_of_getElem? h2)).1
    exact ⟨0, by unfold rootM; simp only [z]; rw [this]; unfold rootM; simp only [h0]⟩
theorem one_ok {e n : Int} {s : Sp} (h : SpOk e n s) : (([s] : List Sp).map (·.2.1)).Nodup ∧ Acyc [s] := by
  have := SpsOk.add (e := e) (n := n) (sps := []) (s := s) (x := s.1) SpsOk.nil h rfl rfl h.ne
  exact ⟨this.nd, this.ac⟩
theorem mk_book {e n : Int} {sps : List Sp} {bds : List Bd} (e0 : 1 ≤ e) (e1 : e ≤ 60) (n0 : 1 ≤ n) (n1 : n ≤ 10) (hs : sps = [] ∨ ∃ s, sps = [s] ∧ SpOk e n s) (hl : bds.length ≤ 30) (hb : ∀ w ∈ bds, BdOk n w) : BkOk (e, n, sps, bds) := by
  rcases hs with rfl | ⟨s, rfl, hs⟩
  · exact ⟨e0, e1, n0, n1, by simp, fun s h => by simp at h, by simp, acyc_nil, hl, hb⟩
  · exact ⟨e0, e1, n0, n1, by simp, fun t h => by simp at h; subst h; exact hs, (one_ok hs).1, (one_ok hs).2, hl, hb⟩
theorem mod_wrap {x n : Int} (h0 : 0 ≤ x) (h1 : x < 2 * n) : x % n = if x < n then x else x - n := by
  by_cases h : x < n
  · rw [if_pos h, Int.emod_eq_of_lt h0 h]
  · rw [if_neg h]
    have : x % n = (x - n) % n := by
      rw [Int.sub_emod_right]
    rw [this, Int.emod_eq_of_lt (by omega) (by omega)]
theorem mod_other {g t n : Int} (g0 : 0 ≤ g) (g1 : g < n) (t0 : 0 ≤ t) (t1 : t < n - 1) : 0 ≤ (g + 1 + t) % n ∧ (g + 1 + t) % n < n ∧ (g + 1 + t) % n ≠ g := by
  rw [mod_wrap (by omega) (by omega)]
  split <;> omega
/-- the book that is drawn -/
structure Bs (e n : Int) (s : Sp) (w : List Bd) : Prop where
  e0 : 1 ≤ e
  e1 : e ≤ 60
  n0 : 2 ≤ n
  n1 : n ≤ 10
  so : SpOk e n s
  wl : 1 ≤ w.length
  wm : w.length ≤ 30
  wo : ∀ x ∈ w, BdOk n x
theorem modT_ok' {i j : Int} (h : 0 < j) : modT i j = some (i % j) := modT_ok h
theorem bounds_ok {l : List Int} {n : Int} (hp : Pool l) (hn : 2 ≤ n) (hn1 : n ≤ 10) : (T_law_bounds l n).Post fun r => Pool r.2 ∧ (∀ b ∈ r.1, BdOk n b) ∧ 1 ≤ r.1.length ∧ r.1.length ≤ 30 := by
  unfold T_law_bounds
  refine (take_post hp (by omega) (by omega)).noX.bind fun r ⟨p1, d0, d1⟩ => ?_
  rw [rgT0 (by omega) (by omega), Q.of_some, Q.ok_bind]
  refine foldQ_post (fun k (s : List Int × List Bd) => Pool s.1 ∧ (∀ b ∈ s.2, BdOk n b) ∧ s.2.length = k) ⟨p1, fun b h => by simp at h, by simp⟩ ?_ ?_
  · intro x hx k ⟨l, bds⟩ hk ⟨p0, so, sl⟩
    simp only at p0 so sl
    rw [irange_len] at hk
    refine (take_post p0 (by omega) (by omega)).noX.bind fun ⟨a, l1⟩ ⟨p1, a0, a1⟩ => ?_
    refine (take_post p1 (by omega) (by omega)).noX.bind fun ⟨c, l2⟩ ⟨p2, c0, c1⟩ => ?_
    simp only at a0 a1 c0 c1 ⊢
    rw [modT_ok' (by omega), Q.of_some, Q.ok_bind]
    refine (take_post p2 (by omega) (by omega)).noX.bind fun ⟨t, l3⟩ ⟨p3, t0, t1⟩ => ?_
    simp only at t0 t1 ⊢
    rw [roomT_ok (by omega), Q.of_some, Q.ok_bind]
    obtain ⟨m0, m1, m2⟩ := mod_other a0 a1 c0 c1
    refine .ok ⟨p3, fun b hb => ?_, by simp [sl]⟩
    rcases List.mem_append.mp hb with hb | hb
    · exact so b hb
    · simp at hb; subst hb
      exact ⟨by simp; omega, by simp; omega, by simp; omega, by simp; omega, fun e => m2 e.symm, by simp; omega, by simp; omega⟩
  · intro ⟨l', bds⟩ ⟨q1, q3, q4⟩
    rw [irange_len] at q4
    exact .ok ⟨q1, q3, by simp at q4 ⊢; omega, by simp at q4 ⊢; omega⟩
theorem rep_ok {α : Type} {xs : List α} {k : Int} (h0 : 0 ≤ k) (h1 : k ≤ 1000) (h2 : xs.length ≤ 1000) : repVT xs k = some (List.replicate k.toNat xs).flatten := by
  unfold repVT; rw [if_pos ⟨by omega, h1, h2⟩]
theorem len_flat {α : Type} (xs : List α) (k : Nat) : (List.replicate k xs).flatten.length = k * xs.length := by simp
theorem sizes_ok {l : List Int} {e n : Int} {s : Sp} {w : List Bd} (hp : Pool l) (h : Bs e n s w) : (T_law_sizes l (e, n, s, w)).Post fun r => Pool r.2 ∧ r.1.length ≤ 100 ∧ ∀ d ∈ r.1, Gd d := by
  have e0 := h.e0; have e1 := h.e1; have n0 := h.n0; have n1 := h.n1; have wl := h.wl; have wm := h.wm
  have so := h.so
  have sa0 := so.a0; have sa1 := so.a1; have sg0 := so.g0; have sg1 := so.g1; have sl0 := so.l0; have slm := so.lm; have sme := so.me
  unfold T_law_sizes
  rw [rgT0 (by omega) (by omega), Q.of_some, Q.ok_bind]
  refine compQ_post Pool (fun (x : Int) (y : Sp) => y.1 = 0 ∧ y.2.1 = x + 1 ∧ 1 ≤ y.2.2.1 ∧ y.2.2.1 ≤ e ∧ y.2.2.2 = e) hp (fun x hx t p => ?_) fun ys l1 p1 hyl hy => ?_
  · exact (take_post p (by omega) (by omega)).noX.bind fun ⟨a, l⟩ ⟨q1, a0, a1⟩ => .ok ⟨_, rfl, q1, rfl, rfl, by simp only at a0 a1 ⊢; omega, by simp only at a0 a1 ⊢; omega, rfl⟩
  rw [irange_len] at hyl
  have hlen : ys.length = 5 := by rw [hyl]; rfl
  have hys : ∀ (i : Nat) (hi : i < ys.length), ys[i].1 = 0 ∧ ys[i].2.1 = (i : Int) + 1 ∧ 1 ≤ ys[i].2.2.1 ∧ ys[i].2.2.1 ≤ e ∧ ys[i].2.2.2 = e := fun i hi => by
    have := hy i _ _ (irange_get (i := 0) (j := 5) (k := i) (by omega)) (List.getElem?_eq_getElem hi)
    simpa using this
  dsimp only
  have wnb : ∀ x : Int, n ≤ x → ∀ b ∈ w, BdOk x b := fun x hx b hb => by
    have o := h.wo b hb
    have := o.a1; have := o.b1
    exact ⟨o.a0, by omega, o.b0, by omega, o.ne, o.w0, o.w1⟩
  rw [Q.ok_bind, catT_ok (by simp), Q.of_some, Q.ok_bind, catT_ok (by simp), Q.of_some, Q.ok_bind, catT_ok (by simp), Q.of_some, Q.ok_bind, rep_ok (by omega) (by omega) (by omega), Q.of_some, Q.ok_bind, catT_ok (by simp), Q.of_some, Q.ok_bind, rep_ok (by omega) (by omega) (by omega), Q.of_some, Q.ok_bind, catT_ok (by simp), Q.of_some, Q.ok_bind]
  refine .ok ⟨p1, by simp, fun d hd => ?_⟩
  simp only [List.cons_append, List.nil_append, List.mem_cons, List.not_mem_nil, or_false] at hd
  rcases hd with rfl | rfl | rfl | rfl | rfl | rfl | rfl | rfl | rfl | rfl | rfl | rfl | rfl | rfl | rfl | rfl
  · refine gd_yes (b := (e, 10, cutD ys none (some 4), w)) ?_
    have hc : cutD ys none (some 4) = ys.take 4 := cut_hi (by decide)
    rw [hc]
    have ht : ∀ t ∈ ys.take 4, t.1 = 0 ∧ (1 ≤ t.2.1 ∧ t.2.1 ≤ 4) ∧ 1 ≤ t.2.2.1 ∧ t.2.2.1 ≤ e ∧ t.2.2.2 = e := fun t ht => by
      obtain ⟨i, hi, rfl⟩ := List.getElem_of_mem ht
      rw [List.getElem_take]
      have hi' : i < 4 := by simp at hi; omega
      obtain ⟨q1, q2, q3⟩ := hys i (by omega)
      exact ⟨q1, by omega, q3⟩
    refine ⟨e0, e1, by simp, by simp, by simp [hlen], fun t hm => ?_, ?_, acyc_zero fun t hm => ⟨(ht t hm).1, by have := (ht t hm).2.1; omega⟩, wm, wnb 10 n1⟩
    · obtain ⟨q1, q2, q3, q4, q5⟩ := ht t hm
      exact ⟨by omega, by simp; omega, by omega, by simp; omega, by omega, q3, by omega, by omega⟩
    · refine List.pairwise_iff_getElem.mpr fun i j hi hj hij => ?_
      simp only [List.length_map, List.length_take] at hi hj
      simp only [List.getElem_map, List.getElem_take]
      have := (hys i (by omega)).2.1
      have := (hys j (by omega)).2.1
      omega
  · exact gd_no (b := (e, 10, ys, w)) fun z => by have := z.sl; simp only at this; omega
  · exact gd_yes (b := (e, 10, [s], w)) (mk_book e0 e1 (by omega) (by omega) (.inr ⟨s, rfl, ⟨sa0, by omega, sg0, by omega, so.ne, sl0, slm, sme⟩⟩) wm (wnb 10 n1))
  · exact gd_no (b := (e, 11, [s], w)) fun z => by have := z.n1; simp only at this; omega
  · exact gd_no (b := (e, 0, [], [])) fun z => by have := z.n0; simp only at this; omega
  · exact gd_no (b := (e, -1, [], [])) fun z => by have := z.n0; simp only at this; omega
  · exact gd_yes (b := (e, 1, [], [])) (mk_book e0 e1 (by omega) (by omega) (.inl rfl) (by simp) (fun x hx => by simp at hx))
  · exact gd_yes (b := (60, n, [s], w)) (mk_book (by omega) (by omega) (by omega) (by omega) (.inr ⟨s, rfl, ⟨sa0, sa1, sg0, sg1, so.ne, sl0, slm, by omega⟩⟩) wm h.wo)
  · exact gd_no (b := (61, n, [s], w)) fun z => by have := z.e1; simp only at this; omega
  · exact gd_no (b := (0, n, [], w)) fun z => by have := z.e0; simp only at this; omega
  · exact gd_yes (b := (1, n, [], w)) (mk_book (by omega) (by omega) (by omega) (by omega) (.inl rfl) wm h.wo)
  · exact gd_no (b := (-1, n, [], w)) fun z => by have := z.e0; simp only at this; omega
  · exact gd_no (b := ((10 : Int) ^ 30, n, [], w)) fun z => by have := z.e1; simp only at this; omega
  · refine gd_yes (b := (e, n, [], cutD (List.replicate (30 : Int).toNat w).flatten none (some 30))) (mk_book e0 e1 (by omega) (by omega) (.inl rfl) ?_ fun x hx => ?_)
    · rw [cut_hi (by decide)]; simp; omega
    · rw [cut_hi (by decide)] at hx
      obtain ⟨ws, hw, hx⟩ := List.mem_flatten.mp (List.mem_of_mem_take hx)
      rw [List.eq_of_mem_replicate hw] at hx
      exact h.wo x hx
  · refine gd_no (b := (e, n, [], cutD (List.replicate (31 : Int).toNat w).flatten none (some 31))) fun z => ?_
    have := z.bl
    simp only at this
    rw [cut_hi (by decide), List.length_take, len_flat, show (31 : Int).toNat = 31 from rfl] at this
    have : 31 ≤ 31 * w.length := Nat.le_mul_of_pos_right _ (by omega)
    omega
  · exact gd_yes (b := (e, n, [], [])) (mk_book e0 e1 (by omega) (by omega) (.inl rfl) (by simp) (fun x hx => by simp at hx))
theorem of_spans_ok {l : List Int} {e n : Int} {s : Sp} {w : List Bd} (hp : Pool l) (h : Bs e n s w) : (T_law_of_spans l (e, n, s, w)).Post fun r => Pool r.2 ∧ r.1.length ≤ 100 ∧ ∀ d ∈ r.1, Gd d := by
  have e0 := h.e0; have e1 := h.e1; have n0 := h.n0; have n1 := h.n1; have wl := h.wl; have wm := h.wm
  have so := h.so
  obtain ⟨a, g, lo, hi⟩ := s
  have sa0 : 0 ≤ a := so.a0
  have sa1 : a ≤ n - 1 := so.a1
  have sg0 : 1 ≤ g := so.g0
  have sg1 : g ≤ n - 1 := so.g1
  have sl0 : 1 ≤ lo := so.l0
  have slm : lo ≤ hi := so.lm
  have sme : hi ≤ e := so.me
  unfold T_law_of_spans
  dsimp only
  refine (take_post hp (by omega) (by omega)).noX.bind fun ⟨t, l1⟩ ⟨p1, t0, t1⟩ => ?_
  simp only at t0 t1 p1 ⊢
  rw [modT_ok' (by omega), Q.of_some, Q.ok_bind]
  obtain ⟨m0, m1, m2⟩ := mod_other (by omega) (by omega) t0 t1 (g := g) (n := n)
  generalize (g + 1 + t) % n = v at m0 m1 m2 ⊢
  have bad : ∀ s : Sp, (¬ SpOk e n s) → Gd (.tuple [eBk (e, n, [s], w), .bool false]) := fun s hs => gd_no fun z => hs (z.so s (by simp))
  have good : ∀ s : Sp, SpOk e n s → Gd (.tuple [eBk (e, n, [s], w), .bool true]) := fun s hs => gd_yes (mk_book e0 e1 (by omega) (by omega) (.inr ⟨s, rfl, hs⟩) wm h.wo)
  rw [Q.ok_bind, compQ_fun (fun x : D => PyData.tuple [.tuple [.int e, .int n, .tuple [x], eV eBd w], .bool true]) (fun _ _ => rfl), Q.ok_bind, catT_ok (by simp), Q.of_some, Q.ok_bind, catT_ok (by simp), Q.of_some, Q.ok_bind, roomT_ok (by simp), Q.of_some, Q.ok_bind, catT_ok (by simp), Q.of_some, Q.ok_bind,
    compQ_fun (fun x : Sp => PyData.tuple [eBk (e, n, [x], w), .bool false]) (fun _ _ => rfl), Q.ok_bind, catT_ok (by simp), Q.of_some, Q.ok_bind]
  refine .ok ⟨p1, by simp, fun d hd => ?_⟩
  rcases List.mem_append.mp hd with hd | hd
  · obtain ⟨x, hx, rfl⟩ := List.mem_map.mp hd
    simp only [List.mem_cons, List.not_mem_nil, or_false] at hx
    rcases hx with rfl | rfl | rfl | rfl
    · exact good (v, g, 1, e) ⟨m0, by simp; omega, sg0, sg1, m2, by simp, e0, by simp⟩
    · exact good (v, g, e, e) ⟨m0, by simp; omega, sg0, sg1, m2, e0, by simp, by simp⟩
    · exact good (v, g, 1, 1) ⟨m0, by simp; omega, sg0, sg1, m2, by simp, by simp, e0⟩
    · exact good (v, g, lo, hi) ⟨m0, by simp; omega, sg0, sg1, m2, sl0, slm, sme⟩
  · obtain ⟨x, hx, rfl⟩ := List.mem_map.mp hd
    refine bad x fun z => ?_
    simp only [List.cons_append, List.nil_append, List.append_assoc, List.mem_append, List.mem_cons, List.not_mem_nil, or_false] at hx
    have z1 := z.a0; have z2 := z.a1; have z3 := z.g0; have z4 := z.g1; have z5 := z.l0; have z6 := z.lm; have z7 := z.me; have z8 := z.ne
    rcases hx with rfl | rfl | rfl | rfl | rfl | rfl | rfl | rfl | rfl | rfl | rfl | rfl | rfl | rfl | rfl | rfl <;> simp only at z1 z2 z3 z4 z5 z6 z7 z8 <;> omega
theorem of_bounds_ok {l : List Int} {e n : Int} {s : Sp} {w : List Bd} (hp : Pool l) (h : Bs e n s w) : (T_law_of_bounds l (e, n, s, w)).Post fun r => r.1.length ≤ 100 ∧ ∀ d ∈ r.1, Gd d := by
  have e0 := h.e0; have e1 := h.e1; have n0 := h.n0; have n1 := h.n1; have wl := h.wl; have wm := h.wm
  have so := h.so
  obtain ⟨x0, w', rfl⟩ : ∃ x w', w = x :: w' := by
    cases w with
    | nil => simp at wl
    | cons x r => exact ⟨x, r, rfl⟩
  have o := h.wo x0 List.mem_cons_self
  obtain ⟨a, b, k⟩ := x0
  have oa0 : 0 ≤ a := o.a0
  have oa1 : a ≤ n - 1 := o.a1
  have ob0 : 0 ≤ b := o.b0
  have ob1 : b ≤ n - 1 := o.b1
  have one : a ≠ b := o.ne
  have ow0 : -60 ≤ k := o.w0
  have ow1 : k ≤ 60 := o.w1
  unfold T_law_of_bounds
  dsimp only
  have e2 : atI ((a, b, k) :: w') 0 = some (a, b, k) := by rw [atI_ok (by decide) (by simp)]; rfl
  rw [e2, Q.of_some, Q.ok_bind]
  refine (take_post hp (by omega) (by omega)).noX.bind fun ⟨t, l1⟩ ⟨p1, t0, t1⟩ => ?_
  simp only at t0 t1 p1 ⊢
  have hc : cutD ((a, b, k) :: w') (some 1) none = w' := by rw [cut_lo (by decide)]; rfl
  simp only [List.length_cons] at wl wm
  have bad : ∀ x : Bd, (¬ BdOk n x) → Gd (.tuple [eBk (e, n, [s], [x] ++ w'), .bool false]) := fun x hs => gd_no fun z => hs (z.bo x (by simp))
  have good : ∀ x : Bd, BdOk n x → Gd (.tuple [eBk (e, n, [s], w' ++ [x]), .bool true]) := fun x hs => gd_yes (mk_book e0 e1 (by omega) (by omega) (.inr ⟨s, rfl, so⟩) (by simp; omega) fun y hy => by
    rcases List.mem_append.mp hy with hy | hy
    · exact h.wo y (List.mem_cons_of_mem _ hy)
    · rw [List.mem_singleton.mp hy]; exact hs)
  rw [catT_ok (by simp), Q.of_some, Q.ok_bind, roomT_ok (by simp), Q.of_some, Q.ok_bind, hc, compQ_fun (fun x : Bd => PyData.tuple [eBk (e, n, [s], w' ++ [x]), .bool true]) (fun x _ => by rw [catT_ok (by simp; omega)]; rfl), Q.ok_bind,
    compQ_fun (fun x : Bd => PyData.tuple [eBk (e, n, [s], [x] ++ w'), .bool false]) (fun x _ => by rw [catT_ok (by simp; omega)]; rfl), Q.ok_bind, catT_ok (by simp), Q.of_some, Q.ok_bind]
  refine .ok ⟨by simp, fun d hd => ?_⟩
  rcases List.mem_append.mp hd with hd | hd
  · obtain ⟨x, hx, rfl⟩ := List.mem_map.mp hd
    refine good x ?_
    simp only [List.mem_cons, List.not_mem_nil, or_false] at hx
    rcases hx with rfl | rfl | rfl | rfl
    · exact ⟨oa0, oa1, ob0, ob1, one, by simp, by simp⟩
    · exact ⟨oa0, oa1, ob0, ob1, one, by simp, by simp⟩
    · exact ⟨by simp, by simp; omega, by simp; omega, by simp, by simp; omega, by simp, by simp⟩
    · exact ⟨by simp; omega, by simp, by simp, by simp; omega, by simp; omega, by simp; omega, by simp; omega⟩
  · obtain ⟨x, hx, rfl⟩ := List.mem_map.mp hd
    refine bad x fun z => ?_
    simp only [List.cons_append, List.nil_append, List.append_assoc, List.mem_append, List.mem_cons, List.not_mem_nil, or_false] at hx
    have z1 := z.a0; have z2 := z.a1; have z3 := z.b0; have z4 := z.b1; have z5 := z.w0; have z6 := z.w1; have z8 := z.ne
    rcases hx with rfl | rfl | rfl | rfl | rfl | rfl | rfl | rfl | rfl | rfl <;> simp only at z1 z2 z3 z4 z5 z6 z8 <;> omega
theorem law_T (ns : List Int) (hl : ns.length ≤ 63) : T_law ns = .ok true := by
  have : (T_law ns).Post fun r => r = true := by
    unfold T_law
    rw [rgT0 (by omega) (by omega), Q.of_some, Q.ok_bind]
    refine forQ_post (fun _ => True) trivial (fun x hx s _ => ?_) fun s _ => .ok rfl
    have hm := mem_irange.1 hx
    refine (pool_ok ns hm.1 (by omega)).noX.bind fun l0 p0 => ?_
    refine (take_post p0 (by omega) (by omega)).noX.bind fun ⟨e, l1⟩ ⟨p1, e0, e1⟩ => ?_
    refine (take_post p1 (by omega) (by omega)).noX.bind fun ⟨n, l2⟩ ⟨p2, n0, n1⟩ => ?_
    simp only at e0 e1 n0 n1 ⊢
    refine (take_post p2 (by omega) (by omega)).noX.bind fun ⟨g, l3⟩ ⟨p3, g0, g1⟩ => ?_
    refine (take_post p3 (by omega) (by omega)).noX.bind fun ⟨lo, l4⟩ ⟨p4, lo0, lo1⟩ => ?_
    simp only at g0 g1 lo0 lo1 ⊢
    refine (take_post p4 (by omega) (by omega)).noX.bind fun ⟨t, l5⟩ ⟨p5, t0, t1⟩ => ?_
    simp only at t0 t1 ⊢
    rw [modT_ok' (by omega), Q.of_some, Q.ok_bind]
    refine (take_post p5 (by omega) (by omega)).noX.bind fun ⟨u, l6⟩ ⟨p6, u0, u1⟩ => ?_
    simp only at u0 u1 ⊢
    obtain ⟨m0, m1, m2⟩ := mod_other (g := 1 + g) (n := 2 + n) (by omega) (by omega) t0 t1
    generalize (1 + g + 1 + t) % (2 + n) = v at m0 m1 m2 ⊢
    refine (bounds_ok p6 (by omega) (by omega)).noX.bind fun ⟨w, l7⟩ ⟨p7, wo, wl, wm⟩ => ?_
    simp only at p7 wo wl wm ⊢
    have hB : Bs (1 + e) (2 + n) (v, 1 + g, 1 + lo, 1 + lo + u) w := ⟨by omega, by omega, by omega, by omega, ⟨m0, by simp; omega, by simp; omega, by simp; omega, m2, by simp; omega, by simp; omega, by simp; omega⟩, wl, wm, wo⟩
    refine (sizes_ok p7 hB).noX.bind fun ⟨ds1, l8⟩ ⟨p8, dl1, dg1⟩ => ?_
    simp only at p8 dl1 dg1 ⊢
    refine (of_spans_ok p8 hB).noX.bind fun ⟨ds2, l9⟩ ⟨p9, dl2, dg2⟩ => ?_
    simp only at p9 dl2 dg2 ⊢
    rw [catT_ok (by omega), Q.of_some, Q.ok_bind]
    refine (of_bounds_ok p9 hB).noX.bind fun ⟨ds3, l10⟩ ⟨dl3, dg3⟩ => ?_
    simp only at dl3 dg3 ⊢
    rw [catT_ok (by simp; omega), Q.of_some, Q.ok_bind, catT_ok (by simp; omega), Q.of_some, Q.ok_bind]
    rw [compQ_fun (fun _ => true) (fun d hd => by
      have : Gd d := by
        rcases List.mem_append.mp hd with hd | hd
        · rcases List.mem_append.mp hd with hd | hd
          · rcases List.mem_append.mp hd with hd | hd
            · exact dg1 d hd
            · exact dg2 d hd
          · exact dg3 d hd
        · rw [List.mem_singleton.mp hd]
          exact gd_yes (b := (1 + e, 2 + n, [(v, 1 + g, 1 + lo, 1 + lo + u)], w)) (mk_book (by omega) (by omega) (by omega) (by omega) (.inr ⟨_, rfl, hB.so⟩) wm wo)
      obtain ⟨b, k, rfl, hk⟩ := this
      have e1 : un2 (PyData.tuple [eBk b, .bool k]) = some (eBk b, .bool k) := rfl
      have e2 : unB (PyData.bool k) = some k := rfl
      rw [e1, Q.of_some, Q.ok_bind]
      simp only
      rw [unBk, Q.of_some, Q.ok_bind, e2, Q.of_some, Q.ok_bind, right_ok hk, Q.ok_ex, Q.ok_bind]), Q.ok_bind]
    have ha : ∀ xs : List D, List.all (List.map (fun _ => true) xs) id = true := by simp
    simp only [ha, Bool.not_true, Bool.false_eq_true, if_false]
    exact .ok ⟨(), rfl, trivial⟩
  obtain ⟨r, e, rfl⟩ := this
  exact e
end Law

theorem Law.law_true : DL.LawTrue Law.F_law := DL.rf_law Law.T_law (fun ns => Law.R_law_s ns) Law.law_T
open PySem PySem.W PyProof.Rows
set_option maxRecDepth 100000 in
set_option maxHeartbeats 0 in
theorem PySem.Challenge.cw_loosehours_k02_books_at_their_bounds_holds : PySem.Challenge.rw_loosehours_k02_books_at_their_bounds.Holds := by
  w_on; o_law; k_head; (case hw => w_witness2)
  k_fill
  refine DL.walk_law (l := PySem.Challenge.rw_loosehours_k02_books_at_their_bounds) (k := 10) (x := "_law_script") rfl rfl ⟨rfl, by decide, by decide⟩ (fun w h Y => PySem.W.kIn_of Y) ?F
  case F =>
    intro w mg fa h KX G hmg
    refine' Law.all_mk Law.law_true KX G hmg ?q_is_whole ?l_is_whole ?c_is_whole ?k_is_whole ?q_is_within ?l_is_within ?c_is_within ?k_is_within ?q_is_span ?l_is_span ?c_is_span ?k_is_span ?q_is_bound ?l_is_bound ?c_is_bound ?k_is_bound ?q_spans_by_goal ?l_spans_by_goal ?c_spans_by_goal ?k_spans_by_goal ?q_way_from ?l_way_from ?c_way_from ?k_way_from ?q_are_spans ?l_are_spans ?c_are_spans ?k_are_spans ?q_is_book ?l_is_book ?c_is_book ?k_is_book ?q_check_book ?l_check_book ?c_check_book ?k_check_book ?q_check_mark ?l_check_mark ?c_check_mark ?k_check_mark ?q_froms ?l_froms ?c_froms ?k_froms ?q_ways_of ?l_ways_of ?c_ways_of ?k_ways_of ?q_chosen ?l_chosen ?c_chosen ?k_chosen ?q_root ?l_root ?c_root ?k_root ?q_show_book ?l_show_book ?c_show_book ?k_show_book ?q__law_pool ?l__law_pool ?c__law_pool ?k__law_pool ?q__law_take ?l__law_take ?c__law_take ?k__law_take ?q__law_bounds ?l__law_bounds ?c__law_bounds ?k__law_bounds ?q__law_sizes ?l__law_sizes ?c__law_sizes ?k__law_sizes ?q__law_of_spans ?l__law_of_spans ?c__law_of_spans ?k__law_of_spans ?q__law_of_bounds ?l__law_of_bounds ?c__law_of_bounds ?k__law_of_bounds ?q__law_only ?l__law_only ?c__law_only ?k__law_only ?q__law_refused ?l__law_refused ?c__law_refused ?k__law_refused ?q__law_refused_all ?l__law_refused_all ?c__law_refused_all ?k__law_refused_all ?q__law_right ?l__law_right ?c__law_right ?k__law_right ?q_law ?l_law ?c_law ?k_law ?n_ValueError ?n_abs ?n_all ?n_bool ?n_divmod ?n_enumerate ?n_int ?n_isinstance ?n_len ?n_max ?n_min ?n_range ?n_sum ?n_tuple ?g_MOST_BOUNDS ?g_MOST_END ?g_MOST_MARKS ?g_MOST_SPANS ?g_MOST_W ?eg_HourError ?ex_HourError ?ek_HourError ?eb_HourError ?et_HourError ?ei_HourError ?eg_NoBook ?ex_NoBook ?ek_NoBook ?eb_NoBook ?et_NoBook ?ei_NoBook ?eg_NoMark ?ex_NoMark ?ek_NoMark ?eb_NoMark ?et_NoMark ?ei_NoMark ?sx_NoBook_HourError ?eg_NoBound ?eg_NoDeeds ?eg_NoFoe ?eg_NoHour ?eg_NoHours ?eg_NoRow ?eg_NoRows ?eg_NoSpan ?eg_NoStory ?eg_NoTables ?eg_NoText ?eg_NoUndo ?eg_NoWord ?eg_TooMany ?er_hn ?er_ht ?hg_NoBook ?hk_NoBook ?hd_NoBook ?ha_NoBook ?hm_NoBook ?kt_NoBook_NoBook ?kt_NoBook_NoBound ?kt_NoBook_NoDeeds ?kt_NoBook_NoFoe ?kt_NoBook_NoHour ?kt_NoBook_NoHours ?kt_NoBook_NoMark ?kt_NoBook_NoRow ?kt_NoBook_NoRows ?kt_NoBook_NoSpan ?kt_NoBook_NoStory ?kt_NoBook_NoTables ?kt_NoBook_NoText ?kt_NoBook_NoUndo ?kt_NoBook_NoWord ?kt_NoBook_TooMany ?kt_NoBook_ValueError
    (case q_is_whole => k_is)
    (case l_is_whole => k_is)
    (case c_is_whole => k_is)
    (case k_is_whole => k_is)
    (case q_is_within => k_is)
    (case l_is_within => k_is)
    (case c_is_within => k_is)
    (case k_is_within => k_is)
    (case q_is_span => k_is)
    (case l_is_span => k_is)
    (case c_is_span => k_is)
    (case k_is_span => k_is)
    (case q_is_bound => k_is)
    (case l_is_bound => k_is)
    (case c_is_bound => k_is)
    (case k_is_bound => k_is)
    (case q_spans_by_goal => k_is)
    (case l_spans_by_goal => k_is)
    (case c_spans_by_goal => k_is)
    (case k_spans_by_goal => k_is)
    (case q_way_from => k_is)
    (case l_way_from => k_is)
    (case c_way_from => k_is)
    (case k_way_from => k_is)
    (case q_are_spans => k_is)
    (case l_are_spans => k_is)
    (case c_are_spans => k_is)
    (case k_are_spans => k_is)
    (case q_is_book => k_is)
    (case l_is_book => k_is)
    (case c_is_book => k_is)
    (case k_is_book => k_is)
    (case q_check_book => k_is)
    (case l_check_book => k_is)
    (case c_check_book => k_is)
    (case k_check_book => k_is)
    (case q_check_mark => k_is)
    (case l_check_mark => k_is)
    (case c_check_mark => k_is)
    (case k_check_mark => k_is)
    (case q_froms => k_is)
    (case l_froms => k_is)
    (case c_froms => k_is)
    (case k_froms => k_is)
    (case q_ways_of => k_is)
    (case l_ways_of => k_is)
    (case c_ways_of => k_is)
    (case k_ways_of => k_is)
    (case q_chosen => k_is)
    (case l_chosen => k_is)
    (case c_chosen => k_is)
    (case k_chosen => k_is)
    (case q_root => k_is)
    (case l_root => k_is)
    (case c_root => k_is)
    (case k_root => k_is)
    (case q_show_book => k_is)
    (case l_show_book => k_is)
    (case c_show_book => k_is)
    (case k_show_book => k_is)
    (case q__law_pool => k_is)
    (case l__law_pool => k_is)
    (case c__law_pool => k_is)
    (case k__law_pool => k_is)
    (case q__law_take => k_is)
    (case l__law_take => k_is)
    (case c__law_take => k_is)
    (case k__law_take => k_is)
    (case q__law_bounds => k_is)
    (case l__law_bounds => k_is)
    (case c__law_bounds => k_is)
    (case k__law_bounds => k_is)
    (case q__law_sizes => k_is)
    (case l__law_sizes => k_is)
    (case c__law_sizes => k_is)
    (case k__law_sizes => k_is)
    (case q__law_of_spans => k_is)
    (case l__law_of_spans => k_is)
    (case c__law_of_spans => k_is)
    (case k__law_of_spans => k_is)
    (case q__law_of_bounds => k_is)
    (case l__law_of_bounds => k_is)
    (case c__law_of_bounds => k_is)
    (case k__law_of_bounds => k_is)
    (case q__law_only => k_is)
    (case l__law_only => k_is)
    (case c__law_only => k_is)
    (case k__law_only => k_is)
    (case q__law_refused => k_is)
    (case l__law_refused => k_is)
    (case c__law_refused => k_is)
    (case k__law_refused => k_is)
    (case q__law_refused_all => k_is)
    (case l__law_refused_all => k_is)
    (case c__law_refused_all => k_is)
    (case k__law_refused_all => k_is)
    (case q__law_right => k_is)
    (case l__law_right => k_is)
    (case c__law_right => k_is)
    (case k__law_right => k_is)
    (case q_law => k_is)
    (case l_law => k_is)
    (case c_law => k_is)
    (case k_law => k_is)
    (case n_ValueError => k_is)
    (case n_abs => k_is)
    (case n_all => k_is)
    (case n_bool => k_is)
    (case n_divmod => k_is)
    (case n_enumerate => k_is)
    (case n_int => k_is)
    (case n_isinstance => k_is)
    (case n_len => k_is)
    (case n_max => k_is)
    (case n_min => k_is)
    (case n_range => k_is)
    (case n_sum => k_is)
    (case n_tuple => k_is)
    (case g_MOST_BOUNDS => k_is)
    (case g_MOST_END => k_is)
    (case g_MOST_MARKS => k_is)
    (case g_MOST_SPANS => k_is)
    (case g_MOST_W => k_is)
    (case eg_HourError => k_is)
    (case ex_HourError => k_exc)
    (case ek_HourError => k_is)
    (case eb_HourError => k_is)
    (case et_HourError => k_is)
    (case ei_HourError => k_is)
    (case eg_NoBook => k_is)
    (case ex_NoBook => k_exc)
    (case ek_NoBook => k_is)
    (case eb_NoBook => k_is)
    (case et_NoBook => k_is)
    (case ei_NoBook => k_is)
    (case eg_NoMark => k_is)
    (case ex_NoMark => k_exc)
    (case ek_NoMark => k_is)
    (case eb_NoMark => k_is)
    (case et_NoMark => k_is)
    (case ei_NoMark => k_is)
    (case sx_NoBook_HourError => first | rfl | k_is)
    (case eg_NoBound => k_is)
    (case eg_NoDeeds => k_is)
    (case eg_NoFoe => k_is)
    (case eg_NoHour => k_is)
    (case eg_NoHours => k_is)
    (case eg_NoRow => k_is)
    (case eg_NoRows => k_is)
    (case eg_NoSpan => k_is)
    (case eg_NoStory => k_is)
    (case eg_NoTables => k_is)
    (case eg_NoText => k_is)
    (case eg_NoUndo => k_is)
    (case eg_NoWord => k_is)
    (case eg_TooMany => k_is)
    (case er_hn => k_is)
    (case er_ht => k_is)
    (case hg_NoBook => k_is)
    (case hk_NoBook => k_is)
    (case hd_NoBook => k_is)
    (case ha_NoBook => k_is)
    (case hm_NoBook => k_is)
    (case kt_NoBook_NoBook => kit_is)
    (case kt_NoBook_NoBound => kit_is)
    (case kt_NoBook_NoDeeds => kit_is)
    (case kt_NoBook_NoFoe => kit_is)
    (case kt_NoBook_NoHour => kit_is)
    (case kt_NoBook_NoHours => kit_is)
    (case kt_NoBook_NoMark => kit_is)
    (case kt_NoBook_NoRow => kit_is)
    (case kt_NoBook_NoRows => kit_is)
    (case kt_NoBook_NoSpan => kit_is)
    (case kt_NoBook_NoStory => kit_is)
    (case kt_NoBook_NoTables => kit_is)
    (case kt_NoBook_NoText => kit_is)
    (case kt_NoBook_NoUndo => kit_is)
    (case kt_NoBook_NoWord => kit_is)
    (case kt_NoBook_TooMany => kit_is)
    (case kt_NoBook_ValueError => kit_is)

