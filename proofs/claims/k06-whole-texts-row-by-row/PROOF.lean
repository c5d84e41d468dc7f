import PyProof.Rows.All
import Wide.All
import OpenK.AllK
import Wide.FinOn
import HandS.ForMost
import HandS.ForExc
import HandS.IsInst
import HandS.Walk
import HandS.Zip
import HandS.Wide
import HandS.TupAny
import HandS.Style
import HandS.TupLe
import KE.GoesMore
import KE.GoesEnum
import KE.KRevSl
import HandS.More
import KE.GoesZip
import HandS.Conv
import HandS.TupMul
import HandS.Iter
import HandS.ExcValue
import HandS.ExcIs
import HandS.ExcInit
import HandS.ExcField
import KE.RegKIsAll
import HandS.WordsExc
import HandS.FStr
import HandS.Text
import PySem.Challenge.RW_loosehours_k06_whole_texts_row_by_row
set_option Elab.async false
set_option linter.all false
set_option maxRecDepth 100000
set_option maxHeartbeats 4000000
set_option synthInstance.maxSize 4000
set_option exponentiation.threshold 500
namespace DL
open PySem PySem.Spec PyProof.Rows L2
noncomputable abbrev D := PyData
inductive Pc where
  | d (x : D)
  | loc (n : Nat)
inductive O where
  | lst (ds : List D)
  | dic (kds : List (Key × D))
  /-- a list with places in it -/
  | lsp (ps : List Pc)
  /-- a dict whose keys are tuples -/
  | dct (kds : List (List Key × D))
  /-- an object of the class C -/
  | ins (C : Str) (fs : List (Str × Pc))
noncomputable abbrev Sto := List (Option O)
structure XV where
  cls : Str
  /-- its field, a whole number or None -/
  fld : Option (Str × D) := none
inductive Val where
  | d (x : D)
  | loc (n : Nat)
  /-- a list that is read, never written: the script -/
  | scr (ds : List D)
  /-- an error that was caught -/
  | er (x : XV)
  /-- a tuple with places in it -/
  | tup (ps : List Pc)
noncomputable abbrev Ev := List (Option Val)
noncomputable def ExC (cls : Value) (d : Option Addr) (a : Addr) : HO := .ext fun h => ∃ (oe : Obj) (vs : Array Value), h.get? a = some oe ∧ Zc cls d oe ∧ oe.data = .fields vs
inductive R (α : Type) where
  | ok (a : α) (S : Sto)
  | exc (x : XV) (S : Sto)
  | bad
noncomputable def R.bind {α β : Type} (r : R α) (k : α → Sto → R β) : R β := match r with
  | .ok a S => k a S
  | .exc x S => .exc x S
  | .bad => .bad
inductive Flow where
  | nx (ρ : Ev) | bk (ρ : Ev) | ct (ρ : Ev) | rt (v : Val) | ex (x : XV) (ρ : Ev)
noncomputable def R.st {α : Type} (r : R α) (ρ : Ev) (k : α → Sto → R Flow) : R Flow := match r with
  | .ok a S => k a S
  | .exc x S => .ok (.ex x ρ) S
  | .bad => .bad
noncomputable abbrev Ex := Ev → Sto → R Val
noncomputable abbrev Te := Ev → Sto → R Bool
noncomputable abbrev La := Ev → Sto → R (List Val)
noncomputable abbrev Blk := Ev → Sto → R Flow
noncomputable def keyD : Key → D
  | .inl i => .int i
  | .inr x => .str x
section
variable (A : Addr → Prop) (H : Hp)
mutual
inductive Rep : D → V → Prop
  | non : Rep .none .non
  | bl (b : Bool) : Rep (.bool b) (.bl b)
  | int (i : Int) : Rep (.int i) (.int i)
  | str (x : Str) : Rep (.str x) (.str x)
  | tup {a : Addr} {vs : List V} {ds : List D} : H a = some (.tup vs) → vs.length ≤ sizeLine → RepL ds vs → Rep (.tuple ds) (.ref a)
  | lst {a : Addr} {vs : List V} {ds : List D} : ¬ A a → H a = some (.lst vs) → vs.length ≤ sizeLine → RepL ds vs → Rep (.list ds) (.ref a)
  | dic {a : Addr} {kvs : List (Key × V)} {kds : List (D × D)} : ¬ A a → Rd H a (.dK kvs) → kvs.length ≤ sizeLine → RepK kds kvs → Rep (.dict kds) (.ref a)
inductive RepL : List D → List V → Prop
  | nil : RepL [] []
  | cons {d : D} {v : V} {ds : List D} {vs : List V} : Rep d v → RepL ds vs → RepL (d :: ds) (v :: vs)
inductive RepK : List (D × D) → List (Key × V) → Prop
  | nil : RepK [] []
  | cons {k : Key} {d : D} {v : V} {ds : List (D × D)} {vs : List (Key × V)} : Rep d v → RepK ds vs → RepK ((keyD k, d) :: ds) ((k, v) :: vs)
end
end
structure Kp (A : Addr → Prop) (H : Hp) (A' : Addr → Prop) (H' : Hp) : Prop where
  tup : ∀ a vs, H a = some (.tup vs) → H' a = some (.tup vs)
  fr : ∀ a o, H a = some o → ¬ A a → H' a = some o
  grow : ∀ a o, H a = some o → A' a → A a
section
variable {A A' : Addr → Prop} {H H' : Hp}
theorem Kp.rd (k : Kp A H A' H') {a : Addr} {u : HO} (n : ¬ A a) (r : Rd H a u) : Rd H' a u := by
  rcases r with r | ⟨o, r⟩
  · exact .inl (k.fr a _ r n)
  · exact .inr ⟨o, k.fr a _ r n⟩
theorem Kp.na (k : Kp A H A' H') {a : Addr} {u : HO} (n : ¬ A a) (r : Rd H a u) : ¬ A' a := fun z => by
  rcases r with r | ⟨o, r⟩
  · exact n (k.grow a _ r z)
  · exact n (k.grow a _ r z)
mutual
theorem Rep.keep (k : Kp A H A' H') : ∀ (d : D) (v : V), Rep A H d v → Rep A' H' d v
  | .none, _, h => by cases h; exact .non
  | .bool _, _, h => by cases h; exact .bl _
  | .int _, _, h => by cases h; exact .int _
  | .str _, _, h => by cases h; exact .str _
  | .tuple ds, _, h => by
    cases h with
    | tup h hl r => exact .tup (k.tup _ _ h) hl (RepL.keep k ds _ r)
  | .list ds, _, h => by
    cases h with
    | lst n h hl r => exact .lst (k.na n (.inl h)) (k.fr _ _ h n) hl (RepL.keep k ds _ r)
  | .dict ds, _, h => by
    cases h with
    | dic n h hl r => exact .dic (k.na n h) (k.rd n h) hl (RepK.keep k ds _ r)
theorem RepL.keep (k : Kp A H A' H') : ∀ (ds : List D) (vs : List V), RepL A H ds vs → RepL A' H' ds vs
  | [], _, h => by cases h; exact .nil
  | d :: ds, _, h => by
    cases h with
    | cons h1 h2 => exact .cons (Rep.keep k d _ h1) (RepL.keep k ds _ h2)
theorem RepK.keep (k : Kp A H A' H') : ∀ (ds : List (D × D)) (vs : List (Key × V)), RepK A H ds vs → RepK A' H' ds vs
  | [], _, h => by cases h; exact .nil
  | (_, d) :: ds, _, h => by
    cases h with
    | cons h1 h2 => exact .cons (Rep.keep k d _ h1) (RepK.keep k ds _ h2)
end
theorem RepL.length : ∀ {ds : List D} {vs : List V}, RepL A H ds vs → ds.length = vs.length
  | _, _, .nil => rfl
  | _, _, .cons _ r => by rw [List.length_cons, List.length_cons, RepL.length r]
theorem RepL.get : ∀ {ds : List D} {vs : List V}, RepL A H ds vs → ∀ {i : Nat} {d : D}, ds[i]? = some d → ∃ v, vs[i]? = some v ∧ Rep A H d v
  | _, _, .nil, i, d, e => by simp at e
  | _, _, .cons h _, 0, d, e => by simp at e; subst e; exact ⟨_, rfl, h⟩
  | _, _, .cons _ r, i + 1, d, e => by
    obtain ⟨v, h1, h2⟩ := RepL.get r (i := i) (by simpa using e)
    exact ⟨v, by simpa using h1, h2⟩
theorem RepL.getV : ∀ {ds : List D} {vs : List V}, RepL A H ds vs → ∀ {i : Nat} {v : V}, vs[i]? = some v → ∃ d, ds[i]? = some d ∧ Rep A H d v
  | _, _, .nil, i, d, e => by simp at e
  | _, _, .cons h _, 0, d, e => by simp at e; subst e; exact ⟨_, rfl, h⟩
  | _, _, .cons _ r, i + 1, d, e => by
    obtain ⟨v, h1, h2⟩ := RepL.getV r (i := i) (by simpa using e)
    exact ⟨v, by simpa using h1, h2⟩
theorem RepL.append : ∀ {ds es : List D} {vs us : List V}, RepL A H ds vs → RepL A H es us → RepL A H (ds ++ es) (vs ++ us)
  | _, _, _, _, .nil, s => s
  | _, _, _, _, .cons h r, s => .cons h (RepL.append r s)
theorem RepL.take : ∀ {ds : List D} {vs : List V} (n : Nat), RepL A H ds vs → RepL A H (ds.take n) (vs.take n)
  | _, _, 0, _ => .nil
  | _, _, _ + 1, .nil => .nil
  | _, _, n + 1, .cons h r => .cons h (RepL.take n r)
theorem RepL.drop : ∀ {ds : List D} {vs : List V} (n : Nat), RepL A H ds vs → RepL A H (ds.drop n) (vs.drop n)
  | _, _, 0, h => h
  | _, _, _ + 1, .nil => .nil
  | _, _, n + 1, .cons _ r => RepL.drop n r
theorem RepL.set {d : D} {v : V} (h : Rep A H d v) : ∀ {ds : List D} {vs : List V} (n : Nat), RepL A H ds vs → RepL A H (ds.set n d) (vs.set n v)
  | _, _, _, .nil => .nil
  | _, _, 0, .cons _ r => .cons h r
  | _, _, n + 1, .cons g r => .cons g (RepL.set h n r)
theorem RepL.reverse : ∀ {ds : List D} {vs : List V}, RepL A H ds vs → RepL A H ds.reverse vs.reverse
  | _, _, .nil => .nil
  | _, _, .cons h r => by
    rw [List.reverse_cons, List.reverse_cons]
    exact RepL.append (RepL.reverse r) (.cons h .nil)
end
structure Cor (Ω : PySem.W.Frag) where
  m : List Addr
  A : Addr → Prop
noncomputable def PRep (c : Cor Ω) (H : Hp) : Pc → V → Prop
  | .d x, u => Rep c.A H x u
  | .loc n, u => ∃ a, c.m[n]? = some a ∧ u = .ref a
inductive PRepL (c : Cor Ω) (H : Hp) : List Pc → List V → Prop
  | nil : PRepL c H [] []
  | cons {p : Pc} {v : V} {ps : List Pc} {vs : List V} : PRep c H p v → PRepL c H ps vs → PRepL c H (p :: ps) (v :: vs)
inductive RepT (A : Addr → Prop) (H : Hp) : List (List Key × D) → List (List Key × V) → Prop
  | nil : RepT A H [] []
  | cons {k : List Key} {d : D} {v : V} {ds : List (List Key × D)} {vs : List (List Key × V)} : Rep A H d v → RepT A H ds vs → RepT A H ((k, d) :: ds) ((k, v) :: vs)
noncomputable def ORep (c : Cor Ω) (H : Hp) (a : Addr) : O → Prop
  | .lst ds => ∃ vs, H a = some (.lst vs) ∧ vs.length ≤ sizeLine ∧ RepL c.A H ds vs
  | .dic kds => ∃ kvs, H a = some (.dK kvs) ∧ kvs.length ≤ sizeLine ∧ RepK c.A H (kds.map fun p => (keyD p.1, p.2)) kvs
  | .lsp ps => ∃ vs, H a = some (.lst vs) ∧ vs.length ≤ sizeLine ∧ PRepL c H ps vs
  | .dct kds => ∃ kvs, H a = some (.dT kvs) ∧ kvs.length ≤ sizeLine ∧ RepT c.A H kds kvs
  | .ins C fs => ∃ (Ca dx : Addr) (vs : List (Str × V)), PySem.W.nsIn Ω mainGlobals C = some (some (.ref Ca)) ∧ H a = some (.ins Ca dx vs) ∧ vs.map (·.1) = fs.map (·.1) ∧ PRepL c H (fs.map (·.2)) (vs.map (·.2))
theorem PRep.keep' {c c' : Cor Ω} {H H' : Hp} (k : Kp c.A H c'.A H') (hm : c.m <+: c'.m) : ∀ {p : Pc} {u : V}, PRep c H p u → PRep c' H' p u
  | .d _, _, h => Rep.keep k _ _ h
  | .loc _, _, ⟨a, h1, h2⟩ => ⟨a, by obtain ⟨t, e⟩ := hm; rw [← e, List.getElem?_append_left (List.getElem?_eq_some_iff.mp h1).1]; exact h1, h2⟩
theorem PRepL.keep' {c c' : Cor Ω} {H H' : Hp} (k : Kp c.A H c'.A H') (hm : c.m <+: c'.m) : ∀ {ps : List Pc} {us : List V}, PRepL c H ps us → PRepL c' H' ps us
  | _, _, .nil => .nil
  | _, _, .cons h t => .cons (h.keep' k hm) (PRepL.keep' k hm t)
theorem PRepL.length {c : Cor Ω} {H : Hp} : ∀ {ps : List Pc} {us : List V}, PRepL c H ps us → ps.length = us.length
  | _, _, .nil => rfl
  | _, _, .cons _ t => by rw [List.length_cons, List.length_cons, t.length]
theorem RepT.keep {A A' : Addr → Prop} {H H' : Hp} (k : Kp A H A' H') : ∀ {ds : List (List Key × D)} {vs : List (List Key × V)}, RepT A H ds vs → RepT A' H' ds vs
  | _, _, .nil => .nil
  | _, _, .cons h t => .cons (Rep.keep k _ _ h) (RepT.keep k t)
theorem ORep.keep' {c c' : Cor Ω} {H H' : Hp} {a : Addr} (k : Kp c.A H c'.A H') (hm : c.m <+: c'.m) (ha : ∀ o, H a = some o → H' a = some o) : ∀ {o : O}, ORep c H a o → ORep c' H' a o
  | .lst _, ⟨vs, q1, q2, q3⟩ => ⟨vs, ha _ q1, q2, RepL.keep k _ _ q3⟩
  | .dic _, ⟨vs, q1, q2, q3⟩ => ⟨vs, ha _ q1, q2, RepK.keep k _ _ q3⟩
  | .lsp _, ⟨vs, q1, q2, q3⟩ => ⟨vs, ha _ q1, q2, q3.keep' k hm⟩
  | .dct _, ⟨vs, q1, q2, q3⟩ => ⟨vs, ha _ q1, q2, q3.keep k⟩
  | .ins _ _, ⟨Ca, dx, vs, q0, q1, q2, q3⟩ => ⟨Ca, dx, vs, q0, ha _ q1, q2, q3.keep' k hm⟩
noncomputable def live (c : Cor Ω) (S : Sto) (a : Addr) : Prop := ∃ (n : Nat) (o : O), c.m[n]? = some a ∧ S[n]? = some (some o)
structure Rel (c : Cor Ω) (S : Sto) (H : Hp) : Prop where
  len : c.m.length = S.length
  inj : ∀ (n n' : Nat) (a : Addr) (o o' : O), c.m[n]? = some a → c.m[n']? = some a → S[n]? = some (some o) → S[n']? = some (some o') → n = n'
  ob : ∀ (n : Nat) (a : Addr) (o : O), c.m[n]? = some a → S[n]? = some (some o) → c.A a ∧ ORep c H a o
  tr : ∀ a, c.A a → ∃ o, H a = some o
  nt : ∀ a vs, H a = some (.tup vs) → ¬ c.A a
structure Nx (c : Cor Ω) (S : Sto) (H : Hp) (c' : Cor Ω) (S' : Sto) (H' : Hp) : Prop where
  pre : c.m <+: c'.m
  grow : ∀ a, c'.A a → c.A a ∨ H a = none
  lock : ∀ a, c.A a → ¬ live c S a → c'.A a
  rel : Rel c' S' H'
  fr : ∀ a o, H a = some o → ¬ live c S a → H' a = some o
  lv : ∀ a, live c' S' a → live c S a ∨ H a = none
section
variable {c c1 c2 : Cor Ω} {S S1 S2 : Sto} {H H1 H2 : Hp}
theorem Rel.live (r : Rel c S H) {a : Addr} (h : live c S a) : c.A a := by
  obtain ⟨n, o, h1, h2⟩ := h
  exact (r.ob n a o h1 h2).1
theorem Nx.refl (r : Rel c S H) : Nx c S H c S H := ⟨List.prefix_refl _, fun _ h => .inl h, fun _ h _ => h, r, fun _ _ h _ => h, fun _ h => .inl h⟩
theorem Nx.trans (r : Rel c S H) (x : Nx c S H c1 S1 H1) (y : Nx c1 S1 H1 c2 S2 H2) : Nx c S H c2 S2 H2 where
  pre := x.pre.trans y.pre
  grow := fun a h => by
    rcases y.grow a h with h | h
    · exact x.grow a h
    · cases q : H a with
      | none => exact .inr rfl
      | some o =>
        by_cases l : live c S a
        · exact .inl (r.live l)
        · rw [x.fr a o q l] at h; cases h
  lock := fun a h l => y.lock a (x.lock a h l) fun z => by
    rcases x.lv a z with z | z
    · exact l z
    · obtain ⟨o, q⟩ := r.tr a h
      rw [q] at z; cases z
  rel := y.rel
  fr := fun a o q l => y.fr a o (x.fr a o q l) fun z => by
    rcases x.lv a z with z | z
    · exact l z
    · rw [q] at z; cases z
  lv := fun a h => by
    rcases y.lv a h with h | h
    · exact x.lv a h
    · cases q : H a with
      | none => exact .inr rfl
      | some o =>
        by_cases l : live c S a
        · exact .inl l
        · rw [x.fr a o q l] at h; cases h
theorem Nx.kp (r : Rel c S H) (x : Nx c S H c1 S1 H1) : Kp c.A H c1.A H1 where
  tup := fun a vs h => x.fr a _ h fun z => r.nt a vs h (r.live z)
  fr := fun a o h n => x.fr a o h fun z => n (r.live z)
  grow := fun a o h z => by
    rcases x.grow a z with z | z
    · exact z
    · rw [h] at z; cases z
end
noncomputable def PV : D → V → Prop
  | .int i, v => v = .int i
  | .none, v => v = .non
  | _, _ => False
noncomputable def FRep (A : Addr → Prop) (f : Option (Str × D)) (d : Option Addr) (H : Hp) : Prop := match f with
  | none => d = none
  | some p => ∃ dd v, d = some dd ∧ ¬ A dd ∧ H dd = some (.xd [(p.1, v)]) ∧ PV p.2 v
theorem FRep.keep {A A' : Addr → Prop} {H H' : Hp} (k : Kp A H A' H') {f : Option (Str × D)} {d : Option Addr} (h : FRep A f d H) : FRep A' f d H' := by
  cases f with
  | none => exact h
  | some p =>
    obtain ⟨dd, v, e, n, h1, h2⟩ := h
    exact ⟨dd, v, e, fun z => n (k.grow dd _ h1 z), k.fr dd _ h1 n, h2⟩
noncomputable def VRep (c : Cor Ω) (H : Hp) : Val → V → Prop
  | .d x, u => Rep c.A H x u
  | .loc n, u => ∃ a, c.m[n]? = some a ∧ u = .ref a
  | .scr ds, u => ∃ a vs, u = .ref a ∧ ((¬ c.A a ∧ Rd H a (.lst vs)) ∨ ∀ H', SqL Ω H' a vs) ∧ vs.length ≤ sizeLine ∧ RepL c.A H ds vs
  | .er x, u => ∃ a C, u = .ref a ∧ ¬ c.A a ∧ PySem.W.nsIn Ω mainGlobals x.cls = some (some (.ref C)) ∧ ∃ d, H a = some (ExC (.ref C) d a) ∧ FRep c.A x.fld d H
  | .tup ps, u => ∃ a us, u = .ref a ∧ H a = some (.tup us) ∧ us.length ≤ sizeLine ∧ PRepL c H ps us
theorem prefix_get {α : Type} {l l' : List α} (h : l <+: l') {n : Nat} {a : α} (e : l[n]? = some a) : l'[n]? = some a := by
  obtain ⟨t, rfl⟩ := h
  obtain ⟨hn, _⟩ := List.getElem?_eq_some_iff.mp e
  rw [List.getElem?_append_left hn]; exact e
theorem VRep.keep {c c1 : Cor Ω} {S S1 : Sto} {H H1 : Hp} (r : Rel c S H) (x : Nx c S H c1 S1 H1) : ∀ {v : Val} {u : V}, VRep c H v u → VRep c1 H1 v u
  | .d _, _, h => Rep.keep (x.kp r) _ _ h
  | .loc _, _, ⟨a, h1, h2⟩ => ⟨a, prefix_get x.pre h1, h2⟩
  | .scr _, _, ⟨a, vs, h1, h2, h4, h5⟩ => ⟨a, vs, h1, h2.elim (fun z => .inl ⟨(x.kp r).na z.1 z.2, (x.kp r).rd z.1 z.2⟩) .inr, h4, RepL.keep (x.kp r) _ _ h5⟩
  | .er _, _, ⟨a, C, h1, h2, h3, d, h4, h5⟩ => ⟨a, C, h1, fun z => h2 ((x.kp r).grow a _ h4 z), h3, d, (x.kp r).fr a _ h4 h2, h5.keep (x.kp r)⟩
  | .tup _, _, ⟨a, us, h1, h2, h3, h4⟩ => ⟨a, us, h1, (x.kp r).tup _ _ h2, h3, h4.keep' (x.kp r) x.pre⟩
inductive VRepL (c : Cor Ω) (H : Hp) : List Val → List V → Prop
  | nil : VRepL c H [] []
  | cons {x : Val} {v : V} {xs : List Val} {vs : List V} : VRep c H x v → VRepL c H xs vs → VRepL c H (x :: xs) (v :: vs)
theorem VRepL.keep {c c1 : Cor Ω} {S S1 : Sto} {H H1 : Hp} (r : Rel c S H) (x : Nx c S H c1 S1 H1) : ∀ {v : List Val} {u : List V}, VRepL c H v u → VRepL c1 H1 v u
  | _, _, .nil => .nil
  | _, _, .cons h t => .cons (h.keep r x) (VRepL.keep r x t)
theorem VRepL.length {c : Cor Ω} {H : Hp} : ∀ {v : List Val} {u : List V}, VRepL c H v u → v.length = u.length
  | _, _, .nil => rfl
  | _, _, .cons _ t => by rw [List.length_cons, List.length_cons, t.length]
structure RepE (c : Cor Ω) (H : Hp) (ρ : Ev) (σ : L2.St) : Prop where
  len : ρ.length = σ.length
  at' : ∀ (i : Nat) (v : Val), ρ[i]? = some (some v) → ∃ u, σ[i]? = some (some u) ∧ VRep c H v u
theorem RepE.keep {c c1 : Cor Ω} {S S1 : Sto} {H H1 : Hp} {ρ : Ev} {σ : L2.St} (r : Rel c S H) (x : Nx c S H c1 S1 H1) (e : RepE c H ρ σ) : RepE c1 H1 ρ σ :=
  ⟨e.len, fun i v h => let ⟨u, h1, h2⟩ := e.at' i v h; ⟨u, h1, h2.keep r x⟩⟩
theorem RepE.set {c : Cor Ω} {H : Hp} {ρ : Ev} {σ : L2.St} {v : Val} {u : V} (e : RepE c H ρ σ) (h : VRep c H v u) (i : Nat) : RepE c H (ρ.set i (some v)) (σ.set i (some u)) := by
  refine ⟨by simpa using e.len, fun j w hj => ?_⟩
  by_cases q : i = j
  · subst q
    have hl : i < ρ.length := by
      cases Nat.lt_or_ge i ρ.length with
      | inl h => exact h
      | inr h => rw [List.getElem?_eq_none (by simpa using h)] at hj; cases hj
    rw [List.getElem?_set_self hl] at hj
    cases hj
    exact ⟨u, List.getElem?_set_self (e.len ▸ hl), h⟩
  · rw [List.getElem?_set_ne q] at hj
    obtain ⟨z, h1, h2⟩ := e.at' j w hj
    exact ⟨z, by rw [List.getElem?_set_ne q]; exact h1, h2⟩
noncomputable def XRep (mg : Str → Option Value) (x : XV) (A : Addr → Prop) (cls : Value) (d : Option Addr) (H : Hp) : Prop := ∃ C, mg x.cls = some (.ref C) ∧ cls = .ref C ∧ FRep A x.fld d H
section
variable {Ω : PySem.W.Frag} (mg : Str → Option Value) (W : WX)
noncomputable def Aft {α : Type} (c : Cor Ω) (S : Sto) (σ : L2.St) (H : Hp) (r : R α) (k : α → Cor Ω → Sto → Hp → Prop) : Prop := match r with
  | .ok a S' => ∀ c' H', Nx c S H c' S' H' → k a c' S' H'
  | .exc x S' => ∀ c' H' cls d, Nx c S H c' S' H' → XRep mg x c'.A cls d H' → W cls d σ H'
  | .bad => False
noncomputable def tE (Ω : PySem.W.Frag) (mg : Str → Option Value) (W : WX) (f : Ex) : TE := fun σ H Q => ∃ (c : Cor Ω) (ρ : Ev) (S : Sto), Rel c S H ∧ RepE c H ρ σ ∧ Aft mg W c S σ H (f ρ S) fun v c' _ H' => ∀ u, VRep c' H' v u → Q u H'
noncomputable def tT (Ω : PySem.W.Frag) (mg : Str → Option Value) (W : WX) (f : Te) : TT := fun σ H Q => ∃ (c : Cor Ω) (ρ : Ev) (S : Sto), Rel c S H ∧ RepE c H ρ σ ∧ Aft mg W c S σ H (f ρ S) fun b _ _ H' => Q b H'
noncomputable def tA (Ω : PySem.W.Frag) (mg : Str → Option Value) (W : WX) (f : La) : TA := fun σ H Q => ∃ (c : Cor Ω) (ρ : Ev) (S : Sto), Rel c S H ∧ RepE c H ρ σ ∧ Aft mg W c S σ H (f ρ S) fun vs c' _ H' => ∀ us, VRepL c' H' vs us → Q us H'
noncomputable def AftS (c : Cor Ω) (S : Sto) (H : Hp) (r : R Flow) (D : Ends) : Prop := match r with
  | .ok (.nx ρ) S' => ∀ c' σ' H', Nx c S H c' S' H' → RepE c' H' ρ σ' → D.nx σ' H'
  | .ok (.bk ρ) S' => ∀ c' σ' H', Nx c S H c' S' H' → RepE c' H' ρ σ' → D.bk σ' H'
  | .ok (.ct ρ) S' => ∀ c' σ' H', Nx c S H c' S' H' → RepE c' H' ρ σ' → D.ct σ' H'
  | .ok (.rt v) S' => ∀ c' H' u, Nx c S H c' S' H' → VRep c' H' v u → D.rt u H'
  | .ok (.ex x ρ) S' => ∀ c' σ' H' cls d, Nx c S H c' S' H' → RepE c' H' ρ σ' → XRep mg x c'.A cls d H' → W cls d σ' H'
  | .exc _ _ => False
  | .bad => False
noncomputable def tS (Ω : PySem.W.Frag) (mg : Str → Option Value) (W : WX) (g : Blk) : TS := fun D σ H => ∃ (c : Cor Ω) (ρ : Ev) (S : Sto), Rel c S H ∧ RepE c H ρ σ ∧ AftS mg W c S H (g ρ S) D
end
section
variable {mg : Str → Option Value} {W : WX} {c c1 : Cor Ω} {S S1 : Sto} {σ : L2.St} {H H1 : Hp} {α β : Type}
theorem Aft.mono {r : R α} {k k' : α → Cor Ω → Sto → Hp → Prop} (h : Aft mg W c S σ H r k) (hk : ∀ a c' S' H', Nx c S H c' S' H' → k a c' S' H' → k' a c' S' H') : Aft mg W c S σ H r k' := by
  cases r with
  | ok a S' => exact fun c' H' x => hk a c' S' H' x (h c' H' x)
  | exc x S' => exact h
  | bad => exact h
theorem Aft.bind (hr : Rel c S H) {r : R α} {k : α → Sto → R β} {K : β → Cor Ω → Sto → Hp → Prop} (h : Aft mg W c S σ H (r.bind k) K) :
    Aft mg W c S σ H r fun a c1 S1 H1 => Aft mg W c1 S1 σ H1 (k a S1) K := by
  cases r with
  | ok a S1 =>
    intro c1 H1 x1
    have h' : Aft mg W c S σ H (k a S1) K := h
    revert h'
    cases k a S1 with
    | ok b S2 => exact fun h' c2 H2 x2 => h' c2 H2 (x1.trans hr x2)
    | exc e S2 => exact fun h' c2 H2 cls d x2 => h' c2 H2 cls d (x1.trans hr x2)
    | bad => exact fun h' => h'
  | exc x S' => exact h
  | bad => exact h
theorem AftS.later (hr : Rel c S H) (x : Nx c S H c1 S1 H1) {r : R Flow} {D : Ends} (h : AftS mg W c S H r D) : AftS mg W c1 S1 H1 r D := by
  cases r with
  | ok f S' =>
    cases f with
    | nx ρ => exact fun c' σ' H' y e => h c' σ' H' (x.trans hr y) e
    | bk ρ => exact fun c' σ' H' y e => h c' σ' H' (x.trans hr y) e
    | ct ρ => exact fun c' σ' H' y e => h c' σ' H' (x.trans hr y) e
    | rt v => exact fun c' H' u y e => h c' H' u (x.trans hr y) e
    | ex z ρ => exact fun c' σ' H' cls d y e => h c' σ' H' cls d (x.trans hr y) e
  | exc x S' => exact h
  | bad => exact h
theorem Aft.st (hr : Rel c S H) {ρ : Ev} (he : RepE c H ρ σ) {r : R α} {k : α → Sto → R Flow} {D : Ends} (h : AftS mg W c S H (r.st ρ k) D) :
    Aft mg W c S σ H r fun a c1 S1 H1 => AftS mg W c1 S1 H1 (k a S1) D := by
  cases r with
  | ok a S1 => exact fun c1 H1 x1 => AftS.later hr x1 h
  | exc x S' => exact fun c' H' cls d y z => h c' σ H' cls d y (he.keep hr y) z
  | bad => exact h
end
end DL
namespace DL
open PySem PySem.Spec PyProof.Rows L2
theorem PE.imp {X : Cx} {e : Expr} {t t' : TE} (h : PE X e t) (hi : ∀ σ H Q, t' σ H Q → t σ H Q) : PE X e t' := ⟨fun pins s σ H Q I hw => h.run pins s σ H Q I (hi σ H Q hw)⟩
theorem PT.imp {X : Cx} {e : Expr} {t t' : TT} (h : PT X e t) (hi : ∀ σ H Q, t' σ H Q → t σ H Q) : PT X e t' := ⟨fun pins s σ H Q I hw => h.run pins s σ H Q I (hi σ H Q hw)⟩
theorem PW.imp {X : Cx} {e : Expr} {t t' : TT} (h : PW X e t) (hi : ∀ σ H Q, t' σ H Q → t σ H Q) : PW X e t' := ⟨fun wh pins s σ H Q I hw => h.run wh pins s σ H Q I (hi σ H Q hw)⟩
theorem PA.imp {X : Cx} {e : List Expr} {t t' : TA} (h : PA X e t) (hi : ∀ σ H Q, t' σ H Q → t σ H Q) : PA X e t' := ⟨fun p pins s σ H Q I hw => h.run p pins s σ H Q I (hi σ H Q hw)⟩
theorem PS.imp {X : Cx} {st : Stmt} {t t' : TS} (h : PS X st t) (hi : ∀ D σ H, t' D σ H → t D σ H) : PS X st t' := ⟨fun pins s σ H D I hw => h.run pins s σ H D I (hi D σ H hw)⟩
theorem PSs.imp {X : Cx} {st : List Stmt} {t t' : TS} (h : PSs X st t) (hi : ∀ D σ H, t' D σ H → t D σ H) : PSs X st t' := ⟨fun pins s σ H D I hw => h.run pins s σ H D I (hi D σ H hw)⟩
theorem OpR.imp {X : Cx} {f : Value → Value → Sem Value} {r r' : R2} (h : OpR X f r) (hi : ∀ x y H Q, r' x y H Q → r x y H Q) : OpR X f r' := fun pins s σ H x y v u Q I rx ry q => h pins s σ H x y v u Q I rx ry (hi _ _ _ _ q)
theorem UnR.imp {X : Cx} {f : Value → Sem Value} {r r' : V → Hp → VK → Prop} (h : UnR X f r) (hi : ∀ x H Q, r' x H Q → r x H Q) : UnR X f r' := fun pins s σ H x v Q I rx q => h pins s σ H x v Q I rx (hi _ _ _ q)
theorem CallR.imp {X : Cx} {f : Value} {r r' : List V → Hp → VK → Prop} (h : CallR X f r) (hi : ∀ xs H Q, r' xs H Q → r xs H Q) : CallR X f r' := fun pins s σ H xs us Q I rx q => h pins s σ H xs us Q I rx (hi _ _ _ q)
theorem IxR.imp {X : Cx} {r r' : R2} (h : IxR X r) (hi : ∀ x y H Q, r' x y H Q → r x y H Q) : IxR X r' := fun value slice pins s σ H x y v u Q I rx ry q hs => h value slice pins s σ H x y v u Q I rx ry (hi _ _ _ _ q) hs
noncomputable abbrev SE (X : Cx) (W : WX) (e : Expr) (f : Ex) : Prop := PE X e (tE X.K X.mg W f)
noncomputable abbrev ST (X : Cx) (W : WX) (e : Expr) (f : Te) : Prop := PT X e (tT X.K X.mg W f)
noncomputable abbrev SW (X : Cx) (W : WX) (e : Expr) (f : Te) : Prop := PW X e (tT X.K X.mg W f)
noncomputable abbrev SA (X : Cx) (W : WX) (es : List Expr) (f : La) : Prop := PA X es (tA X.K X.mg W f)
noncomputable abbrev SS (X : Cx) (W : WX) (st : Stmt) (g : Blk) : Prop := PS X st (tS X.K X.mg W g)
noncomputable abbrev SSs (X : Cx) (W : WX) (sts : List Stmt) (g : Blk) : Prop := PSs X sts (tS X.K X.mg W g)
noncomputable def look (S : Sto) : Val → Option D
  | .d x => some x
  | .loc n => match S[n]? with
    | some (some (.lst ds)) => some (.list ds)
    | some (some (.dic kds)) => some (.dict (kds.map fun p => (keyD p.1, p.2)))
    | _ => none
  | .scr _ => none
  | .er _ => none
  | .tup _ => none
noncomputable def lookR (S : Sto) : Val → Option D
  | .scr ds => some (.list ds)
  | .d x => some x
  | .loc n => look S (.loc n)
  | .er _ => none
  | .tup _ => none
inductive LRep (c : Cor Ω) (H : Hp) : D → V → Prop
  | of {d : D} {u : V} : Rep c.A H d u → LRep c H d u
  | lst {a : Addr} {vs : List V} {ds : List D} : H a = some (.lst vs) → vs.length ≤ sizeLine → RepL c.A H ds vs → LRep c H (.list ds) (.ref a)
  | dic {a : Addr} {kvs : List (Key × V)} {kds : List (D × D)} : H a = some (.dK kvs) → kvs.length ≤ sizeLine → RepK c.A H kds kvs → LRep c H (.dict kds) (.ref a)
inductive LRepR (c : Cor Ω) (H : Hp) : D → V → Prop
  | of {d : D} {u : V} : LRep c H d u → LRepR c H d u
  | scr {a : Addr} {vs : List V} {ds : List D} : (Rd H a (.lst vs) ∨ ∀ H', SqL Ω H' a vs) → vs.length ≤ sizeLine → RepL c.A H ds vs → LRepR c H (.list ds) (.ref a)
section
variable {c c1 : Cor Ω} {S S1 : Sto} {H H1 : Hp} {u : V} {x : D}
theorem look_rep (r : Rel c S H) : ∀ {v : Val} {u : V} {x : D}, VRep c H v u → look S v = some x → LRep c H x u
  | .d y, u, x, h, e => by cases e; exact .of h
  | .scr _, _, _, _, e => by cases e
  | .er _, _, _, _, e => by cases e
  | .tup _, _, _, _, e => by cases e
  | .loc n, u, x, ⟨a, h1, h2⟩, e => by
    subst h2
    simp only [look] at e
    split at e
    · rename_i ds h3
      cases e
      obtain ⟨_, vs, q1, q2, q3⟩ := r.ob n a _ h1 h3
      exact .lst q1 q2 q3
    · rename_i kds h3
      cases e
      obtain ⟨_, vs, q1, q2, q3⟩ := r.ob n a _ h1 h3
      exact .dic q1 q2 q3
    · cases e
theorem lookR_rep (r : Rel c S H) : ∀ {v : Val} {u : V} {x : D}, VRep c H v u → lookR S v = some x → LRepR c H x u
  | .d y, u, x, h, e => by cases e; exact .of (.of h)
  | .scr _, _, _, ⟨a, vs, h1, h3, h4, h5⟩, e => by cases e; subst h1; exact .scr (h3.elim (fun z => .inl z.2) .inr) h4 h5
  | .loc n, u, x, h, e => .of (look_rep r h (by simpa [lookR] using e))
  | .er _, _, _, _, e => by cases e
  | .tup _, _, _, _, e => by cases e
theorem LRep.int {i : Int} (h : LRep c H (.int i) u) : u = .int i := by cases h with | of h => cases h; rfl
theorem LRep.str {i : Str} (h : LRep c H (.str i) u) : u = .str i := by cases h with | of h => cases h; rfl
theorem LRep.bl {i : Bool} (h : LRep c H (.bool i) u) : u = .bl i := by cases h with | of h => cases h; rfl
theorem LRep.non (h : LRep c H .none u) : u = .non := by cases h with | of h => cases h; rfl
theorem LRep.tup {ds : List D} (h : LRep c H (.tuple ds) u) : ∃ a vs, u = .ref a ∧ H a = some (.tup vs) ∧ vs.length ≤ sizeLine ∧ RepL c.A H ds vs := by
  cases h with | of h => cases h with | tup h1 h2 h3 => exact ⟨_, _, rfl, h1, h2, h3⟩
theorem LRep.list {ds : List D} (h : LRep c H (.list ds) u) : ∃ a vs, u = .ref a ∧ H a = some (.lst vs) ∧ vs.length ≤ sizeLine ∧ RepL c.A H ds vs := by
  cases h with
  | of h => cases h with | lst h0 h1 h2 h3 => exact ⟨_, _, rfl, h1, h2, h3⟩
  | lst h1 h2 h3 => exact ⟨_, _, rfl, h1, h2, h3⟩
theorem LRep.dict {ds : List (D × D)} (h : LRep c H (.dict ds) u) : ∃ a vs, u = .ref a ∧ Rd H a (.dK vs) ∧ vs.length ≤ sizeLine ∧ RepK c.A H ds vs := by
  cases h with
  | of h => cases h with | dic h0 h1 h2 h3 => exact ⟨_, _, rfl, h1, h2, h3⟩
  | dic h1 h2 h3 => exact ⟨_, _, rfl, .inl h1, h2, h3⟩
theorem LRepR.list {ds : List D} (h : LRepR c H (.list ds) u) : ∃ a vs, u = .ref a ∧ SqL Ω H a vs ∧ vs.length ≤ sizeLine ∧ RepL c.A H ds vs := by
  cases h with
  | of h => obtain ⟨a, vs, h1, h2, h3, h4⟩ := h.list; exact ⟨a, vs, h1, SqL.of h2, h3, h4⟩
  | scr h1 h2 h3 => exact ⟨_, _, rfl, h1.elim .inl (fun z => z H), h2, h3⟩
theorem LRepR.plain {d : D} (hd : ∀ ds, d ≠ .list ds) (h : LRepR c H d u) : LRep c H d u := by
  cases h with
  | of h => exact h
  | scr h1 h2 h3 => exact absurd rfl (hd _)
theorem LRep.keep (r : Rel c S H) (x1 : Nx c S H c1 S H1) (hl : ∀ a, live c S a → H1 a = H a) : ∀ {d : D} {u : V}, LRep c H d u → LRep c1 H1 d u
  | _, _, .of h => .of (Rep.keep (x1.kp r) _ _ h)
  | _, _, .lst (a := a) h1 h2 h3 => by
    refine .lst ?_ h2 (RepL.keep (x1.kp r) _ _ h3)
    by_cases l : live c S a
    · rw [hl a l]; exact h1
    · exact x1.fr a _ h1 l
  | _, _, .dic (a := a) h1 h2 h3 => by
    refine .dic ?_ h2 (RepK.keep (x1.kp r) _ _ h3)
    by_cases l : live c S a
    · rw [hl a l]; exact h1
    · exact x1.fr a _ h1 l
end
theorem Nx.new {c : Cor Ω} {S : Sto} {H : Hp} (r : Rel c S H) {p : Addr} {o : HO} (hp : H p = none) : Nx c S H c S (upd H p o) := by
  have na : ∀ a, c.A a → a ≠ p := fun a h e => by
    obtain ⟨q, z⟩ := r.tr a h
    rw [e, hp] at z; cases z
  have k : Kp c.A H c.A (upd H p o) := ⟨fun a vs h => by rw [upd_ne (ne_of_none h hp)]; exact h, fun a q h _ => by rw [upd_ne (ne_of_none h hp)]; exact h, fun _ _ _ z => z⟩
  refine ⟨List.prefix_refl _, fun _ h => .inl h, fun _ h _ => h, ⟨r.len, r.inj, fun n a ob h1 h2 => ?_, fun a h => ?_, fun a vs h => ?_⟩, fun a q h _ => by rw [upd_ne (ne_of_none h hp)]; exact h, fun _ h => .inl h⟩
  · obtain ⟨h3, h4⟩ := r.ob n a ob h1 h2
    exact ⟨h3, h4.keep' k (List.prefix_refl _) fun o e => by rw [upd_ne (na a h3)]; exact e⟩
  · obtain ⟨q, z⟩ := r.tr a h
    exact ⟨q, by rw [upd_ne (na a h)]; exact z⟩
  · intro z
    rw [upd_ne (na a z)] at h
    exact r.nt a vs h z
theorem Rep.newTup {c : Cor Ω} {S : Sto} {H : Hp} (r : Rel c S H) {p : Addr} (hp : H p = none) {ds : List D} {vs : List V} (h : RepL c.A H ds vs) (hl : vs.length ≤ sizeLine) : Rep c.A (upd H p (.tup vs)) (.tuple ds) (.ref p) :=
  .tup upd_same hl (RepL.keep ((Nx.new r hp).kp r) _ _ h)
theorem Rep.newLst {c : Cor Ω} {S : Sto} {H : Hp} (r : Rel c S H) {p : Addr} (hp : H p = none) {ds : List D} {vs : List V} (h : RepL c.A H ds vs) (hl : vs.length ≤ sizeLine) : Rep c.A (upd H p (.lst vs)) (.list ds) (.ref p) :=
  .lst (fun z => by obtain ⟨o, q⟩ := r.tr p z; rw [hp] at q; cases q) upd_same hl (RepL.keep ((Nx.new r hp).kp r) _ _ h)
noncomputable def eVar (i : Nat) : Ex := fun ρ S => match ρ[i]? with
  | some (some v) => .ok v S
  | _ => .bad
noncomputable def eC (x : D) : Ex := fun _ S => .ok (.d x) S
section
variable {X : Cx} {W : WX}
theorem se_var {e : Expr} {i : Nat} (h : PE X e (tVar i)) : SE X W e (eVar i) := PE.imp h fun σ H Q ⟨c, ρ, S, hr, he, q⟩ => by
  unfold eVar at q
  split at q
  · rename_i v hv
    obtain ⟨u, h1, h2⟩ := he.at' i v hv
    exact ⟨u, h1, q c H (Nx.refl hr) u h2⟩
  · exact q.elim
theorem se_c {e : Expr} {x : D} {v : V} (h : PE X e (tC v)) (hx : ∀ A H, Rep A H x v) : SE X W e (eC x) := PE.imp h fun σ H Q ⟨c, ρ, S, hr, he, q⟩ => q c H (Nx.refl hr) v (hx _ _)
theorem se_int {i j pos} : SE X W (.Constant (.int i) j pos) (eC (.int i)) := se_c pe_int fun _ _ => .int i
theorem se_bl {i j pos} : SE X W (.Constant (.bool i) j pos) (eC (.bool i)) := se_c pe_bl fun _ _ => .bl i
theorem se_non {j pos} : SE X W (.Constant .none j pos) (eC .none) := se_c pe_non fun _ _ => .non
theorem se_str {i j pos} : SE X W (.Constant (.str i) j pos) (eC (.str i)) := se_c pe_str fun _ _ => .str i
noncomputable def ofO (o : Option D) (S : Sto) : R Val := match o with
  | some r => .ok (.d r) S
  | none => .bad
noncomputable def op2 (op : D → D → Option D) (v w : Val) (S : Sto) : R Val := ofO ((look S v).bind fun x => (look S w).bind fun y => op x y) S
noncomputable def eBin (op : D → D → Option D) (fa fb : Ex) : Ex := fun ρ S => (fa ρ S).bind fun v S1 => (fb ρ S1).bind fun w S2 => op2 op v w S2
theorem two {mg : Str → Option Value} {β : Type} {c : Cor Ω} {S : Sto} {H : Hp} {ρ : Ev} {σ : L2.St} {fa fb : Ex} {k : Val → Val → Sto → R β} {K : β → Cor Ω → Sto → Hp → Prop} {R' : V → V → Hp → Prop} (hr : Rel c S H) (he : RepE c H ρ σ)
    (h : Aft mg W c S σ H ((fa ρ S).bind fun v S1 => (fb ρ S1).bind fun w S2 => k v w S2) K)
    (hR : ∀ v w c2 S2 H2 x y, Nx c S H c2 S2 H2 → VRep c2 H2 v x → VRep c2 H2 w y → Aft mg W c2 S2 σ H2 (k v w S2) K → R' x y H2) :
    tE Ω mg W fa σ H fun x H1 => tE Ω mg W fb σ H1 fun y H2 => R' x y H2 := by
  refine ⟨c, ρ, S, hr, he, (Aft.bind hr h).mono fun v c1 S1 H1 x1 h1 u hu => ?_⟩
  refine ⟨c1, ρ, S1, x1.rel, he.keep hr x1, (Aft.bind x1.rel h1).mono fun w c2 S2 H2 x2 h2 y hy => ?_⟩
  exact hR v w c2 S2 H2 u y (x1.trans hr x2) (hu.keep x1.rel x2) hy h2
noncomputable def r2D (Ω : PySem.W.Frag) (op : D → D → Option D) : R2 := fun x y H Q => ∃ (c : Cor Ω) (S : Sto) (d e r : D), Rel c S H ∧ LRep c H d x ∧ LRep c H e y ∧ op d e = some r ∧ ∀ c' H' u, Nx c S H c' S H' → Rep c'.A H' r u → Q u H'
theorem op2_r {mg : Str → Option Value} {op : D → D → Option D} {c : Cor Ω} {S : Sto} {H : Hp} {σ : L2.St} {v w : Val} {x y : V} {Q : VK} (hr : Rel c S H) (hv : VRep c H v x) (hw : VRep c H w y)
    (h : Aft mg W c S σ H (op2 op v w S) fun v c' _ H' => ∀ u, VRep c' H' v u → Q u H') : r2D Ω op x y H Q := by
  unfold op2 at h
  cases e1 : look S v with
  | none => rw [e1] at h; exact h.elim
  | some d =>
    cases e2 : look S w with
    | none => rw [e1, e2] at h; exact h.elim
    | some e =>
      cases e3 : op d e with
      | none => simp only [e1, e2, e3, Option.bind] at h; exact h.elim
      | some r =>
        simp only [e1, e2, e3, Option.bind] at h
        exact ⟨c, S, d, e, r, hr, look_rep hr hv e1, look_rep hr hw e2, e3, fun c' H' u x1 hu => h c' H' x1 u hu⟩
theorem se_bin {o : Operator} {op : D → D → Option D} {a b : Expr} {fa fb : Ex} {pos : Pos} (ho : OpR X (binaryOp o) (r2D X.K op)) (ha : SE X W a fa) (hb : SE X W b fb) : SE X W (.BinOp a o b pos) (eBin op fa fb) :=
  PE.imp (pe_op ho ha hb) fun σ H Q ⟨c, ρ, S, hr, he, q⟩ => two hr he q fun v w c2 S2 H2 x y x1 hv hw h => op2_r x1.rel hv hw h
theorem se_cmp {o : CmpOp} {op : D → D → Option D} {a b : Expr} {fa fb : Ex} {pos : Pos} (ho : OpR X (compareOp o) (r2D X.K op)) (ha : SE X W a fa) (hb : SE X W b fb) (hm : behindInMarks o b = false) : SE X W (.Compare a [o] [b] pos) (eBin op fa fb) :=
  PE.imp (pe_cmpR ho ha hb hm) fun σ H Q ⟨c, ρ, S, hr, he, q⟩ => two hr he q fun v w c2 S2 H2 x y x1 hv hw h => op2_r x1.rel hv hw h
noncomputable def asB (v : Val) (S : Sto) : R Bool := match v with
  | .d (.bool b) => .ok b S
  | _ => .bad
noncomputable def tOf (f : Ex) : Te := fun ρ S => (f ρ S).bind asB
theorem asB_r {mg : Str → Option Value} {c : Cor Ω} {S : Sto} {H : Hp} {σ : L2.St} {v : Val} {u : V} {k : Bool → Cor Ω → Sto → Hp → Prop} (hr : Rel c S H) (hv : VRep c H v u) (h : Aft mg W c S σ H (asB v S) k) : ∃ b, v = .d (.bool b) ∧ u = .bl b ∧ k b c S H := by
  unfold asB at h
  split at h
  · cases hv; exact ⟨_, rfl, rfl, h c H (Nx.refl hr)⟩
  · exact h.elim
theorem st_cmp {o : CmpOp} {op : D → D → Option D} {a b : Expr} {fa fb : Ex} {pos : Pos} (ho : OpR X (compareOp o) (r2D X.K op)) (ha : SE X W a fa) (hb : SE X W b fb) (hm : behindInMarks o b = false) : ST X W (.Compare a [o] [b] pos) (tOf (eBin op fa fb)) :=
  PT.imp (pt_cmpR ho ha hb hm) fun σ H Q ⟨c, ρ, S, hr, he, q⟩ => two hr he (Aft.bind hr q) fun v w c2 S2 H2 x y x1 hv hw h =>
    op2_r x1.rel hv hw (h.mono fun v c' S' H' x2 h' u hu => let ⟨b, _, e, q⟩ := asB_r x2.rel hu h'; ⟨b, e, q⟩)
end
end DL
namespace DL
open PySem PySem.Spec PyProof.Rows L2
noncomputable def smallI (i : Int) : Bool := decide (-18446744073709551616 < i) && decide (i < 18446744073709551616)
noncomputable def addD : D → D → Option D
  | .int i, .int j => some (.int (i + j))
  | .str x, .str y => if x.length + y.length ≤ sizeLine then some (.str (x ++ y)) else none
  | .tuple xs, .tuple ys => if xs.length + ys.length ≤ sizeLine then some (.tuple (xs ++ ys)) else none
  | .list xs, .list ys => if xs.length + ys.length ≤ sizeLine then some (.list (xs ++ ys)) else none
  | _, _ => none
noncomputable def subD : D → D → Option D
  | .int i, .int j => some (.int (i - j))
  | _, _ => none
noncomputable def mulD : D → D → Option D
  | .int i, .int j => if (smallI j || smallI i || decide (i.natAbs.log2 + j.natAbs.log2 < 1000000)) = true then some (.int (i * j)) else none
  | _, _ => none
noncomputable def fdivD : D → D → Option D
  | .int i, .int j => if 0 < j ∧ j.natAbs.log2 < 9000 then some (.int (i / j)) else none
  | _, _ => none
noncomputable def modD : D → D → Option D
  | .int i, .int j => if 0 < j then some (.int (i % j)) else none
  | _, _ => none
noncomputable def powD : D → D → Option D
  | .int i, .int j => if 0 ≤ j ∧ j ≤ 1000000 ∧ i.natAbs < 18446744073709551616 then some (.int (i ^ j.toNat)) else none
  | _, _ => none
section
variable {X : Cx}
theorem o_add : OpR X (binaryOp .Add) (r2D X.K addD) := OpR.imp (op_add.or (op_add_str.or (op_catA.or op_cat))) fun x y H Q ⟨c, S, d, e, r, hr, hd, he, ho, q⟩ => by
  unfold addD at ho
  split at ho
  · cases ho; rw [hd.int, he.int]; exact .inl ⟨_, _, rfl, rfl, q c H _ (Nx.refl hr) (.int _)⟩
  · split at ho
    · cases ho; rw [hd.str, he.str]; exact .inr (.inl ⟨_, _, rfl, rfl, by assumption, q c H _ (Nx.refl hr) (.str _)⟩)
    · cases ho
  · split at ho
    · rename_i hl
      cases ho
      obtain ⟨a, vs, rfl, ha, hal, ra⟩ := hd.tup
      obtain ⟨b, us, rfl, hb, hbl, rb⟩ := he.tup
      have hl' : vs.length + us.length ≤ sizeLine := by rw [← ra.length, ← rb.length]; exact hl
      refine .inr (.inr (.inl ⟨a, b, vs, us, rfl, rfl, SqT.of ha, SqT.of hb, hl', fun e => ?_, fun _ e => ?_, fun _ _ p hp => ?_⟩))
      · subst e; cases ra; exact q c H _ (Nx.refl hr) (.tup hb hbl rb)
      · subst e; cases rb; rw [List.append_nil] at q; exact q c H _ (Nx.refl hr) (.tup ha hal ra)
      · exact q c _ _ (Nx.new hr hp) (Rep.newTup hr hp (ra.append rb) (by rw [List.length_append]; exact hl'))
    · cases ho
  · split at ho
    · rename_i hl
      cases ho
      obtain ⟨a, vs, rfl, ha, hal, ra⟩ := hd.list
      obtain ⟨b, us, rfl, hb, hbl, rb⟩ := he.list
      have hl' : vs.length + us.length ≤ sizeLine := by rw [← ra.length, ← rb.length]; exact hl
      exact .inr (.inr (.inr ⟨a, b, vs, us, rfl, rfl, ha, hb, hl', fun p hp => q c _ _ (Nx.new hr hp) (Rep.newLst hr hp (ra.append rb) (by rw [List.length_append]; exact hl'))⟩))
    · cases ho
  · cases ho
theorem o_sub : OpR X (binaryOp .Sub) (r2D X.K subD) := OpR.imp op_sub fun x y H Q ⟨c, S, d, e, r, hr, hd, he, ho, q⟩ => by
  unfold subD at ho
  split at ho
  · cases ho; rw [hd.int, he.int]; exact ⟨_, _, rfl, rfl, q c H _ (Nx.refl hr) (.int _)⟩
  · cases ho
theorem smallI_ok {i : Int} (h : smallI i = true) : -(2 ^ 64) < i ∧ i < 2 ^ 64 := by
  unfold smallI at h
  simp only [Bool.and_eq_true, decide_eq_true_eq] at h
  exact ⟨by omega, by omega⟩
theorem o_mul : OpR X (binaryOp .Mult) (r2D X.K mulD) := OpR.imp (op_mul.or op_mulW) fun x y H Q ⟨c, S, d, e, r, hr, hd, he, ho, q⟩ => by
  unfold mulD at ho
  split at ho
  · rename_i i j
    split at ho
    · rename_i hs
      cases ho; rw [hd.int, he.int]
      have q' := q c H _ (Nx.refl hr) (.int _)
      rw [Bool.or_eq_true, Bool.or_eq_true, decide_eq_true_eq] at hs
      rcases hs with (h | h) | h
      · exact .inl ⟨_, _, rfl, rfl, .inr (smallI_ok h), q'⟩
      · exact .inl ⟨_, _, rfl, rfl, .inl (smallI_ok h), q'⟩
      · exact .inr ⟨_, _, rfl, rfl, h, q'⟩
    · cases ho
  · cases ho
theorem o_fdiv : OpR X (binaryOp .FloorDiv) (r2D X.K fdivD) := OpR.imp op_fdivW fun x y H Q ⟨c, S, d, e, r, hr, hd, he, ho, q⟩ => by
  unfold fdivD at ho
  split at ho
  · split at ho
    · rename_i hs
      cases ho; rw [hd.int, he.int]; exact ⟨_, _, rfl, rfl, hs, q c H _ (Nx.refl hr) (.int _)⟩
    · cases ho
  · cases ho
theorem o_mod : OpR X (binaryOp .Mod) (r2D X.K modD) := OpR.imp op_mod fun x y H Q ⟨c, S, d, e, r, hr, hd, he, ho, q⟩ => by
  unfold modD at ho
  split at ho
  · split at ho
    · rename_i hs
      cases ho; rw [hd.int, he.int]; exact ⟨_, _, rfl, rfl, hs, q c H _ (Nx.refl hr) (.int _)⟩
    · cases ho
  · cases ho
theorem o_pow : OpR X (binaryOp .Pow) (r2D X.K powD) := OpR.imp op_pow fun x y H Q ⟨c, S, d, e, r, hr, hd, he, ho, q⟩ => by
  unfold powD at ho
  split at ho
  · split at ho
    · rename_i hs
      cases ho; rw [hd.int, he.int]; exact ⟨_, _, rfl, rfl, ⟨hs.1, hs.2.1, hs.2.2⟩, q c H _ (Nx.refl hr) (.int _)⟩
    · cases ho
  · cases ho
end
noncomputable def eqB (a b : D) : Option Bool := match a, b with
  | .str x, .str y => some (x == y)
  | a, b => if SeqAt.shaped a && SeqAt.shaped b then some (PyData.eqv a b) else none
noncomputable def eqD (a b : D) : Option D := (eqB a b).map .bool
noncomputable def neD (a b : D) : Option D := (eqB a b).map fun k => .bool !k
noncomputable def cmpD (p : Int → Int → Bool) : D → D → Option D
  | .int i, .int j => some (.bool (p i j))
  | _, _ => none
noncomputable abbrev ltD := cmpD fun i j => decide (i < j)
noncomputable abbrev leD := cmpD fun i j => decide (i ≤ j)
noncomputable abbrev gtD := cmpD fun i j => decide (j < i)
noncomputable abbrev geD := cmpD fun i j => decide (j ≤ i)
noncomputable def isNo : D → Bool
  | .none => true
  | _ => false
noncomputable def isD : D → D → Option D
  | x, .none => some (.bool (isNo x))
  | .bool a, .bool b => some (.bool (decide (a = b)))
  | _, _ => none
section
variable {K : PySem.W.Frag} {A : Addr → Prop} {H : Hp}
mutual
theorem Rep.dp : ∀ (d : D) (v : V), d.canLay0 = true → Rep A H d v → Dp K H v d
  | .none, _, _, h => by cases h; exact .non
  | .bool _, _, _, h => by cases h; exact .bl _
  | .int _, _, _, h => by cases h; exact .int _
  | .str _, _, _, h => by cases h; exact .str _
  | .tuple ds, _, s, h => by
    cases h with
    | tup h hl r => exact .tup (SqT.of h) (RepL.dp ds _ (by simpa [PyData.canLay0] using s) r)
  | .list ds, _, s, h => by
    cases h with
    | lst n h hl r => exact .lst (SqL.of h) (RepL.dp ds _ (by simpa [PyData.canLay0] using s) r)
  | .dict ds, _, s, h => by simp [PyData.canLay0] at s
theorem RepL.dp : ∀ (ds : List D) (vs : List V), PyData.canLayAll0 ds = true → RepL A H ds vs → DpAll K H vs ds
  | [], _, _, h => by cases h; exact .nil
  | d :: ds, _, s, h => by
    have s' : d.canLay0 = true ∧ PyData.canLayAll0 ds = true := by simpa [PyData.canLayAll0] using s
    cases h with
    | cons h1 h2 => exact .cons (Rep.dp d _ s'.1 h1) (RepL.dp ds _ s'.2 h2)
end
theorem LRep.dp {c : Cor Ω} {d : D} {u : V} (s : SeqAt.shaped d = true) (h : LRep c H d u) : Dp K H u d := by
  have s' : d.canLay0 = true := SeqAt.canLay_of_shaped s
  cases h with
  | of h => exact Rep.dp _ _ s' h
  | lst h1 h2 h3 => exact .lst (SqL.of h1) (RepL.dp _ _ (by simpa [PyData.canLay0] using s') h3)
  | dic h1 h2 h3 => simp [PyData.canLay0] at s'
end
section
variable {X : Cx}
theorem eqB_cases {a b : D} {k : Bool} (h : eqB a b = some k) : (∃ x y, a = .str x ∧ b = .str y ∧ k = (x == y)) ∨ (SeqAt.shaped a = true ∧ SeqAt.shaped b = true ∧ k = PyData.eqv a b) := by
  unfold eqB at h
  split at h
  · exact .inl ⟨_, _, rfl, rfl, (Option.some.inj h).symm⟩
  · split at h
    · rename_i hs
      rw [Bool.and_eq_true] at hs
      exact .inr ⟨hs.1, hs.2, (Option.some.inj h).symm⟩
    · cases h
theorem o_eq (hu : X.A.units + 64 < cLine) : OpR X (compareOp .Eq) (r2D X.K eqD) := OpR.imp (op_eq.or (op_eqD hu)) fun x y H Q ⟨c, S, d, e, r, hr, hd, he, ho, q⟩ => by
  obtain ⟨k, hk, rfl⟩ := Option.map_eq_some_iff.mp ho
  rcases eqB_cases hk with ⟨x, y, rfl, rfl, rfl⟩ | ⟨h1, h2, rfl⟩
  · rw [hd.str, he.str]; exact .inl ⟨rfl, by rw [dec_str]; exact q c H _ (Nx.refl hr) (.bl _)⟩
  · exact .inr ⟨d, e, hd.dp h1, he.dp h2, h1, h2, q c H _ (Nx.refl hr) (.bl _)⟩
theorem o_ne (hu : X.A.units + 64 < cLine) : OpR X (compareOp .NotEq) (r2D X.K neD) := OpR.imp (op_ne.or (op_neD hu)) fun x y H Q ⟨c, S, d, e, r, hr, hd, he, ho, q⟩ => by
  obtain ⟨k, hk, rfl⟩ := Option.map_eq_some_iff.mp ho
  rcases eqB_cases hk with ⟨x, y, rfl, rfl, rfl⟩ | ⟨h1, h2, rfl⟩
  · rw [hd.str, he.str]; exact .inl ⟨rfl, by rw [dec_str]; exact q c H _ (Nx.refl hr) (.bl _)⟩
  · exact .inr ⟨d, e, hd.dp h1, he.dp h2, h1, h2, q c H _ (Nx.refl hr) (.bl _)⟩
theorem cmpD_r {p : Int → Int → Bool} {x y : V} {H : Hp} {Q : VK} (h : r2D Ω (cmpD p) x y H Q) : rI0 (fun i j => .bl (p i j)) x y H Q := by
  obtain ⟨c, S, d, e, r, hr, hd, he, ho, q⟩ := h
  unfold cmpD at ho
  split at ho
  · cases ho; rw [hd.int, he.int]; exact ⟨_, _, rfl, rfl, q c H _ (Nx.refl hr) (.bl _)⟩
  · cases ho
theorem o_lt : OpR X (compareOp .Lt) (r2D X.K ltD) := OpR.imp op_lt fun _ _ _ _ h => cmpD_r h
theorem o_le : OpR X (compareOp .LtE) (r2D X.K leD) := OpR.imp op_le fun _ _ _ _ h => cmpD_r h
theorem o_gt : OpR X (compareOp .Gt) (r2D X.K gtD) := OpR.imp op_gt fun _ _ _ _ h => cmpD_r h
theorem o_ge : OpR X (compareOp .GtE) (r2D X.K geD) := OpR.imp op_ge fun _ _ _ _ h => cmpD_r h
theorem non_of {c : Cor Ω} {H : Hp} {d : D} {u : V} (h : LRep c H d u) : decide (u = .non) = isNo d := by
  cases h with
  | of h => cases h <;> rfl
  | lst _ _ _ => rfl
  | dic _ _ _ => rfl
theorem o_is : OpR X (compareOp .Is) (r2D X.K isD) := OpR.imp (op_isN.or op_is_bl) fun x y H Q ⟨c, S, d, e, r, hr, hd, he, ho, q⟩ => by
  unfold isD at ho
  split at ho
  · cases ho; rw [he.non]; exact .inl ⟨rfl, by rw [non_of hd]; exact q c H _ (Nx.refl hr) (.bl _)⟩
  · cases ho; rw [hd.bl, he.bl]; exact .inr ⟨_, _, rfl, rfl, q c H _ (Nx.refl hr) (.bl _)⟩
  · cases ho
end
noncomputable def flatD : D → Bool
  | .none | .bool _ | .int _ | .str _ => true
  | _ => false
noncomputable def flatEq : D → D → Bool
  | .none, .none => true
  | .bool a, .bool b => a == b
  | .bool a, .int b => (if a then 1 else 0) == b
  | .int a, .bool b => a == (if b then 1 else 0)
  | .int a, .int b => a == b
  | .str a, .str b => a == b
  | _, _ => false
noncomputable def keyOf : D → Option Key
  | .int i => some (.inl i)
  | .str x => some (.inr x)
  | _ => none
noncomputable def dget (kds : List (D × D)) (k : Key) : Option D := (kds.find? fun p => decide (keyOf p.1 = some k)).map (·.2)
noncomputable def inB (x : D) : D → Option Bool
  | .list ys => if flatD x && ys.all flatD then some (ys.any fun y => flatEq y x) else if SeqAt.shaped x && SeqAt.shaped (.list ys) then some (ys.any fun y => PyData.eqv y x) else none
  | .tuple ys => if flatD x && ys.all flatD then some (ys.any fun y => flatEq y x) else if SeqAt.shaped x && SeqAt.shaped (.tuple ys) then some (ys.any fun y => PyData.eqv y x) else none
  | .dict kds => (keyOf x).map fun k => (dget kds k).isSome
  | .str z => match x with
    | .str ⟨⟨[c]⟩⟩ => some (decide (c ∈ z.cps.toList))
    | _ => none
  | _ => none
noncomputable def inD (x y : D) : Option D := (inB x y).map .bool
noncomputable def ninD (x y : D) : Option D := (inB x y).map fun k => .bool !k
section
variable {A : Addr → Prop} {H : Hp}
theorem keyOf_keyD (k : Key) : keyOf (keyD k) = some k := by cases k <;> rfl
theorem keyOf_eq {d : D} {k : Key} (h : keyOf d = some k) : d = keyD k := by
  unfold keyOf at h
  split at h <;> cases h <;> rfl
theorem rep_key {k : Key} {v : V} (h : Rep A H (keyD k) v) : v = kV k := by
  cases k <;> (cases h; rfl)
theorem rep_keyD (k : Key) : Rep A H (keyD k) (kV k) := by
  cases k with
  | inl i => exact .int i
  | inr x => exact .str x
theorem RepK.get (k : Key) : ∀ {kds : List (D × D)} {kvs : List (Key × V)}, RepK A H kds kvs → (∃ d v, dget kds k = some d ∧ valV kvs k = some v ∧ Rep A H d v) ∨ (dget kds k = none ∧ valV kvs k = none)
  | _, _, .nil => .inr ⟨rfl, rfl⟩
  | _, _, .cons (k := j) (d := d) (v := v) h r => by
    by_cases e : j = k
    · subst e
      exact .inl ⟨d, v, by simp [dget, List.find?_cons, keyOf_keyD], valV_pos rfl, h⟩
    · have e1 : ∀ ds, dget ((keyD j, d) :: ds) k = dget ds k := fun ds => by simp [dget, List.find?_cons, keyOf_keyD, e]
      rw [e1, valV_neg e]
      exact RepK.get k r
theorem flat_of {d : D} {v : V} (f : flatD d = true) (h : Rep A H d v) : flatV v = true := by
  cases h <;> first | rfl | cases f
theorem flatEq_of {d e : D} {v u : V} (f : flatD d = true) (g : flatD e = true) (h : Rep A H d v) (h' : Rep A H e u) : eqV v u = flatEq d e := by
  cases h <;> cases h' <;> first | rfl | cases f | cases g
theorem all_flat : ∀ {ds : List D} {vs : List V}, RepL A H ds vs → ds.all flatD = true → vs.all flatV = true
  | _, _, .nil, _ => rfl
  | _, _, .cons h r, f => by
    rw [List.all_cons, Bool.and_eq_true] at *
    exact ⟨flat_of f.1 h, all_flat r f.2⟩
theorem any_flat {x : D} {u : V} (fx : flatD x = true) (hx : Rep A H x u) : ∀ {ds : List D} {vs : List V}, RepL A H ds vs → ds.all flatD = true → inV u vs = ds.any fun y => flatEq y x
  | _, _, .nil, _ => rfl
  | _, _, .cons h r, f => by
    rw [List.all_cons, Bool.and_eq_true] at f
    have ih := any_flat fx hx r f.2
    unfold inV at *
    rw [List.any_cons, List.any_cons, ih, flatEq_of f.1 fx h hx]
theorem LRep.flat {c : Cor Ω} {d : D} {u : V} (f : flatD d = true) (h : LRep c H d u) : Rep c.A H d u := by
  cases h with
  | of h => exact h
  | lst _ _ _ => cases f
  | dic _ _ _ => cases f
end
section
variable {X : Cx}
theorem op_dIn (hu : X.A.units + 1 < cLine) : OpR X (compareOp .In) (fun y x H Q => ∃ a o, x = .ref a ∧ DGet H a y o ∧ Q (.bl o.isSome) H) := fun pins s σ H y x v u Q I ry rx ⟨a, o, e, g, q⟩ => by
  subst e
  obtain rfl : u = Value.ref a := rx
  exact d_in hu I g ry fun s' I' => ⟨.bl o.isSome, H, I', rfl, q⟩
theorem op_dNotIn (hu : X.A.units + 1 < cLine) : OpR X (compareOp .NotIn) (fun y x H Q => ∃ a o, x = .ref a ∧ DGet H a y o ∧ Q (.bl (!o.isSome)) H) := fun pins s σ H y x v u Q I ry rx ⟨a, o, e, g, q⟩ => by
  subst e
  obtain rfl : u = Value.ref a := rx
  exact d_notIn hu I g ry fun s' I' => ⟨.bl (!o.isSome), H, I', rfl, q⟩
noncomputable def rInD (K : PySem.W.Frag) (neg : Bool) : R2 := fun x y H Q => ∃ d e ys, Dp K H x d ∧ Dp K H y e ∧ (e = .list ys ∨ e = .tuple ys) ∧ SeqAt.shaped d = true ∧ SeqAt.shaped e = true ∧ Q (.bl (if neg then !(ys.any fun z => PyData.eqv z d) else ys.any fun z => PyData.eqv z d)) H
theorem shaped_items {ys : List D} {e : D} (h : e = .list ys ∨ e = .tuple ys) (s : SeqAt.shaped e = true) : PyData.canLayAll0 ys = true ∧ PyData.depthAll ys ≤ 63 := by
  have h1 := SeqAt.canLay_of_shaped s
  have h2 := SeqAt.depth_of_shaped s
  rcases h with rfl | rfl
  · exact ⟨by simpa [PyData.canLay0] using h1, by simp [PyData.depth] at h2; omega⟩
  · exact ⟨by simpa [PyData.canLay0] using h1, by simp [PyData.depth] at h2; omega⟩
theorem op_inD (hu : X.A.units + 64 < cLine) : OpR X (compareOp .In) (rInD X.K false) := by
  intro pins s σ H x y v u Q I rx ry h
  obtain ⟨d, e, ys, hd, he, hs, sd, se, q⟩ := h
  obtain ⟨as, r1⟩ := Dp.reads I d x v hd rx
  obtain ⟨bs, r2⟩ := Dp.reads I e y u he ry
  obtain ⟨c1, c2⟩ := shaped_items hs se
  have c3 : X.A.units + 1 + min (PyData.depthAll ys) d.depth < cLine := by have := Nat.min_le_left (PyData.depthAll ys) d.depth; omega
  rcases hs with rfl | rfl
  · exact SeqAt.in_list_reads r2 r1 c1 (SeqAt.canLay_of_shaped sd) c3 ⟨.bl _, H, I, rfl, q⟩
  · exact SeqAt.in_tuple_reads r2 r1 c1 (SeqAt.canLay_of_shaped sd) c3 ⟨.bl _, H, I, rfl, q⟩
theorem op_ninD (hu : X.A.units + 64 < cLine) : OpR X (compareOp .NotIn) (rInD X.K true) := by
  intro pins s σ H x y v u Q I rx ry h
  obtain ⟨d, e, ys, hd, he, hs, sd, se, q⟩ := h
  obtain ⟨as, r1⟩ := Dp.reads I d x v hd rx
  obtain ⟨bs, r2⟩ := Dp.reads I e y u he ry
  obtain ⟨c1, c2⟩ := shaped_items hs se
  have c3 : X.A.units + 1 + min (PyData.depthAll ys) d.depth < cLine := by have := Nat.min_le_left (PyData.depthAll ys) d.depth; omega
  rcases hs with rfl | rfl
  · exact SeqAt.notIn_list_reads r2 r1 c1 (SeqAt.canLay_of_shaped sd) c3 ⟨.bl _, H, I, rfl, q⟩
  · exact SeqAt.notIn_tuple_reads r2 r1 c1 (SeqAt.canLay_of_shaped sd) c3 ⟨.bl _, H, I, rfl, q⟩
theorem inB_cases {K : PySem.W.Frag} {c : Cor Ω} {H : Hp} {x y : D} {u v : V} {k : Bool} (h : inB x y = some k) (hx : LRep c H x u) (hy : LRep c H y v) :
    (∃ p xs, v = .ref p ∧ (SqL K H p xs ∨ SqT K H p xs) ∧ flatV u = true ∧ xs.all flatV = true ∧ inV u xs = k) ∨ (∃ a o, v = .ref a ∧ DGet H a u o ∧ o.isSome = k) ∨ (∃ cc z, u = .str ⟨#[cc]⟩ ∧ v = .str z ∧ decide (cc ∈ z.cps.toList) = k) ∨ (∃ ys, (y = .list ys ∨ y = .tuple ys) ∧ SeqAt.shaped x = true ∧ SeqAt.shaped y = true ∧ (ys.any fun z => PyData.eqv z x) = k) := by
  unfold inB at h
  split at h
  · split at h
    · rename_i hf
      rw [Bool.and_eq_true] at hf
      cases h
      obtain ⟨a, vs, rfl, h1, h2, h3⟩ := hy.list
      exact .inl ⟨a, vs, rfl, .inl (SqL.of h1), flat_of hf.1 (hx.flat hf.1), all_flat h3 hf.2, any_flat hf.1 (hx.flat hf.1) h3 hf.2⟩
    · split at h
      · rename_i hf
        rw [Bool.and_eq_true] at hf
        cases h
        exact .inr (.inr (.inr ⟨_, .inl rfl, hf.1, hf.2, rfl⟩))
      · cases h
  · split at h
    · rename_i hf
      rw [Bool.and_eq_true] at hf
      cases h
      obtain ⟨a, vs, rfl, h1, h2, h3⟩ := hy.tup
      exact .inl ⟨a, vs, rfl, .inr (SqT.of h1), flat_of hf.1 (hx.flat hf.1), all_flat h3 hf.2, any_flat hf.1 (hx.flat hf.1) h3 hf.2⟩
    · split at h
      · rename_i hf
        rw [Bool.and_eq_true] at hf
        cases h
        exact .inr (.inr (.inr ⟨_, .inr rfl, hf.1, hf.2, rfl⟩))
      · cases h
  · obtain ⟨kk, h1, rfl⟩ := Option.map_eq_some_iff.mp h
    obtain ⟨a, vs, rfl, h2, h3, h4⟩ := hy.dict
    have e := keyOf_eq h1
    subst e
    have e2 : u = kV kk := rep_key (A := c.A) (H := H) (hx.flat (by cases kk <;> rfl))
    subst e2
    refine .inr (.inl ⟨a, valV vs kk, rfl, .inl ⟨vs, kk, h2, rfl, rfl⟩, ?_⟩)
    rcases h4.get kk with ⟨d, v, q1, q2, _⟩ | ⟨q1, q2⟩
    · rw [q1, q2]; rfl
    · rw [q1, q2]; rfl
  · split at h
    · cases h
      rw [hx.str, hy.str]
      exact .inr (.inr (.inl ⟨_, _, rfl, rfl, rfl⟩))
    · cases h
  · cases h
theorem o_in (hu : X.A.units + 64 < cLine) : OpR X (compareOp .In) (r2D X.K inD) := OpR.imp (op_in_seq.or ((op_dIn (by omega)).or (op_in_sign.or (op_inD hu)))) fun x y H Q ⟨c, S, d, e, r, hr, hd, he, ho, q⟩ => by
  obtain ⟨k, hk, rfl⟩ := Option.map_eq_some_iff.mp ho
  have q' := q c H _ (Nx.refl hr) (.bl _)
  rcases inB_cases (K := X.K) hk hd he with ⟨p, xs, h1, h2, h3, h4, h5⟩ | ⟨a, o, h1, h2, h3⟩ | ⟨cc, z, h1, h2, h3⟩ | ⟨ys, h1, h2, h3, h4⟩
  · exact .inl ⟨p, xs, h1, h2, h3, h4, by simp only [Bool.false_eq_true, if_false]; rw [h5]; exact q'⟩
  · exact .inr (.inl ⟨a, o, h1, h2, by rw [h3]; exact q'⟩)
  · exact .inr (.inr (.inl ⟨cc, z, h1, h2, by rw [h3]; exact q'⟩))
  · exact .inr (.inr (.inr ⟨d, e, ys, hd.dp h2, he.dp h3, h1, h2, h3, by simp only [Bool.false_eq_true, if_false, if_true]; rw [h4]; exact q'⟩))
theorem o_nin (hu : X.A.units + 64 < cLine) : OpR X (compareOp .NotIn) (r2D X.K ninD) := OpR.imp (op_notIn_seq.or ((op_dNotIn (by omega)).or (op_notIn_sign.or (op_ninD hu)))) fun x y H Q ⟨c, S, d, e, r, hr, hd, he, ho, q⟩ => by
  obtain ⟨k, hk, rfl⟩ := Option.map_eq_some_iff.mp ho
  have q' := q c H _ (Nx.refl hr) (.bl _)
  rcases inB_cases (K := X.K) hk hd he with ⟨p, xs, h1, h2, h3, h4, h5⟩ | ⟨a, o, h1, h2, h3⟩ | ⟨cc, z, h1, h2, h3⟩ | ⟨ys, h1, h2, h3, h4⟩
  · exact .inl ⟨p, xs, h1, h2, h3, h4, by simp only [if_true]; rw [h5]; exact q'⟩
  · exact .inr (.inl ⟨a, o, h1, h2, by rw [h3]; exact q'⟩)
  · exact .inr (.inr (.inl ⟨cc, z, h1, h2, by rw [h3]; exact q'⟩))
  · exact .inr (.inr (.inr ⟨d, e, ys, hd.dp h2, he.dp h3, h1, h2, h3, by simp only [Bool.false_eq_true, if_false, if_true]; rw [h4]; exact q'⟩))
end
end DL
namespace DL
open PySem PySem.Spec PyProof.Rows L2
noncomputable def ixD : D → D → Option D
  | .list xs, .int i => atI xs i
  | .tuple xs, .int i => atI xs i
  | .str z, .int i => if z.length ≤ sizeLine then (atI z.cps.toList i).map fun c => .str ⟨#[c]⟩ else none
  | .dict kds, k => (keyOf k).bind (dget kds)
  | _, _ => none
noncomputable def op2R (op : D → D → Option D) (v w : Val) (S : Sto) : R Val := ofO ((lookR S v).bind fun x => (look S w).bind fun y => op x y) S
noncomputable def eIx (fa fb : Ex) : Ex := fun ρ S => (fa ρ S).bind fun v S1 => (fb ρ S1).bind fun w S2 => op2R ixD v w S2
noncomputable def r2R (Ω : PySem.W.Frag) (op : D → D → Option D) : R2 := fun x y H Q => ∃ (c : Cor Ω) (S : Sto) (d e r : D), Rel c S H ∧ LRepR c H d x ∧ LRep c H e y ∧ op d e = some r ∧ ∀ c' H' u, Nx c S H c' S H' → Rep c'.A H' r u → Q u H'
theorem RepL.atI {A : Addr → Prop} {H : Hp} {ds : List D} {vs : List V} (r : RepL A H ds vs) {i : Int} {d : D} (h : L2.atI ds i = some d) : ∃ v, L2.atI vs i = some v ∧ Rep A H d v := by
  unfold L2.atI at *
  rw [← r.length]
  cases e : ixN ds.length i with
  | none => rw [e] at h; cases h
  | some j =>
    rw [e] at h
    obtain ⟨v, h1, h2⟩ := r.get (show ds[j]? = some d from h)
    exact ⟨v, h1, h2⟩
section
variable {X : Cx} {W : WX}
theorem op2R_r {mg : Str → Option Value} {op : D → D → Option D} {c : Cor Ω} {S : Sto} {H : Hp} {σ : L2.St} {v w : Val} {x y : V} {Q : VK} (hr : Rel c S H) (hv : VRep c H v x) (hw : VRep c H w y)
    (h : Aft mg W c S σ H (op2R op v w S) fun v c' _ H' => ∀ u, VRep c' H' v u → Q u H') : r2R Ω op x y H Q := by
  unfold op2R at h
  cases e1 : lookR S v with
  | none => rw [e1] at h; exact h.elim
  | some d =>
    cases e2 : look S w with
    | none => rw [e1, e2] at h; exact h.elim
    | some e =>
      cases e3 : op d e with
      | none => simp only [e1, e2, e3, Option.bind] at h; exact h.elim
      | some r =>
        simp only [e1, e2, e3, Option.bind] at h
        exact ⟨c, S, d, e, r, hr, lookR_rep hr hv e1, look_rep hr hw e2, e3, fun c' H' u x1 hu => h c' H' x1 u hu⟩
theorem ix_dict (hu : X.A.units + 1 < cLine) : IxR X (fun x y H Q => ∃ a v, x = .ref a ∧ DGet H a y (some v) ∧ Q v H) := by
  intro value slice pins s σ H x y v u Q I rx ry h hs
  obtain ⟨a, z, rfl, g, q⟩ := h
  obtain rfl : v = Value.ref a := rx
  exact tail_any (dict_typeIs I g) PySem.F.slot_dict_getitem.lookup (d_getItem hu I g ry fun w' s3 I3 rw' => ⟨z, H, I3, rw', q⟩) hs
theorem o_ix (hu : X.A.units + 1 < cLine) : IxR X (r2R X.K ixD) := IxR.imp (ix_list.or (ix_tup.or (ix_str.or (ix_dict hu)))) fun x y H Q ⟨c, S, d, e, r, hr, hd, he, ho, q⟩ => by
  unfold ixD at ho
  split at ho
  · obtain ⟨a, vs, rfl, h1, h2, h3⟩ := hd.list
    obtain ⟨v, h4, h5⟩ := h3.atI ho
    rw [he.int]
    exact .inl ⟨a, vs, _, v, rfl, rfl, h1, h4, q c H v (Nx.refl hr) h5⟩
  · obtain ⟨a, vs, rfl, h1, h2, h3⟩ := (hd.plain (fun _ z => by cases z)).tup
    obtain ⟨v, h4, h5⟩ := h3.atI ho
    rw [he.int]
    exact .inr (.inl ⟨a, vs, _, v, rfl, rfl, SqT.of h1, h4, q c H v (Nx.refl hr) h5⟩)
  · split at ho
    · rename_i hl
      obtain ⟨cc, h1, rfl⟩ := Option.map_eq_some_iff.mp ho
      rw [he.int, (hd.plain (fun _ z => by cases z)).str]
      exact .inr (.inr (.inl ⟨_, _, cc, rfl, rfl, hl, h1, q c H _ (Nx.refl hr) (.str _)⟩))
    · cases ho
  · obtain ⟨k, h1, h2⟩ := Option.bind_eq_some_iff.mp ho
    obtain ⟨a, vs, rfl, h3, h4, h5⟩ := (hd.plain (fun _ z => by cases z)).dict
    have e := keyOf_eq h1
    subst e
    have e2 : y = kV k := rep_key (A := c.A) (H := H) (he.flat (by cases k <;> rfl))
    subst e2
    rcases h5.get k with ⟨d, v, q1, q2, q3⟩ | ⟨q1, q2⟩
    · rw [q1] at h2; cases h2
      exact .inr (.inr (.inr ⟨a, v, rfl, .inl ⟨vs, k, h3, rfl, q2.symm⟩, q c H v (Nx.refl hr) q3⟩))
    · rw [q1] at h2; cases h2
  · cases ho
theorem se_ix (hu : X.A.units + 1 < cLine) {a b : Expr} {fa fb : Ex} {pos : Pos} (ha : SE X W a fa) (hb : SE X W b fb) (hs : PlainIx b) : SE X W (.Subscript a b pos) (eIx fa fb) :=
  PE.imp (pe_ix (o_ix hu) ha hb hs) fun σ H Q ⟨c, ρ, S, hr, he, q⟩ => two hr he q fun v w c2 S2 H2 x y x1 hv hw h => op2R_r x1.rel hv hw h
end
noncomputable abbrev Po := Ev → Sto → R (Option Int)
noncomputable def pNone : Po := fun _ S => .ok none S
noncomputable def pSome (f : Ex) : Po := fun ρ S => (f ρ S).bind fun v S1 => match v with
  | .d (.int i) => .ok (some i) S1
  | _ => .bad
noncomputable def tO (Ω : PySem.W.Frag) (mg : Str → Option Value) (W : WX) (f : Po) : TO := fun σ H Q => ∃ (c : Cor Ω) (ρ : Ev) (S : Sto), Rel c S H ∧ RepE c H ρ σ ∧ Aft mg W c S σ H (f ρ S) fun o _ _ H' => Q o H'
noncomputable def cutD {α : Type} (xs : List α) (lo hi : Option Int) : List α := (xs.drop (HT.sIx xs.length 0 lo)).take (HT.sIx xs.length xs.length hi - HT.sIx xs.length 0 lo)
noncomputable def slD (lo hi : Option Int) : D → Option D
  | .list xs => some (.list (cutD xs lo hi))
  | .tuple xs => some (.tuple (cutD xs lo hi))
  | .str z => if z.length ≤ sizeLine then some (.str (cutS z lo hi)) else none
  | _ => none
noncomputable def eSl (fe : Ex) (fl fh : Po) : Ex := fun ρ S => (fe ρ S).bind fun v S1 => (fl ρ S1).bind fun l S2 => (fh ρ S2).bind fun h S3 => ofO ((lookR S3 v).bind (slD l h)) S3
section
variable {X : Cx} {W : WX}
noncomputable abbrev SO (X : Cx) (W : WX) (e : Option Expr) (f : Po) : Prop := PO X e (tO X.K X.mg W f)
theorem so_none : SO X W none pNone := ⟨fun pins s σ H Q I h => po_none.run pins s σ H Q I (by obtain ⟨c, ρ, S, hr, he, q⟩ := h; exact q c H (Nx.refl hr))⟩
theorem so_some {e : Expr} {f : Ex} (h : SE X W e f) : SO X W (some e) (pSome f) := ⟨fun pins s σ H Q I hh => (po_some h).run pins s σ H Q I (by
  obtain ⟨c, ρ, S, hr, he, q⟩ := hh
  refine ⟨c, ρ, S, hr, he, (Aft.bind hr q).mono fun v c1 S1 H1 x1 h1 u hu => ?_⟩
  split at h1
  · cases hu; exact ⟨_, rfl, h1 c1 H1 (Nx.refl x1.rel)⟩
  · exact h1.elim)⟩
theorem RepL.cut {A : Addr → Prop} {H : Hp} {ds : List D} {vs : List V} (r : RepL A H ds vs) (lo hi : Option Int) : RepL A H (cutD ds lo hi) (cutV vs lo hi) := by
  unfold cutD cutV
  rw [r.length]
  exact (r.drop _).take _
theorem cut_all {α : Type} (xs : List α) {lo hi : Option Int} (h : HT.sIx xs.length 0 lo = 0 ∧ HT.sIx xs.length xs.length hi = xs.length) : cutD xs lo hi = xs := by
  unfold cutD
  rw [h.1, h.2]
  simp
theorem se_sl {e : Expr} {lo hi : Option Expr} {fe : Ex} {fl fh : Po} {p2 pos : Pos} (he : SE X W e fe) (hl : SO X W lo fl) (hh : SO X W hi fh) : SE X W (.Subscript e (.Slice lo hi none p2) pos) (eSl fe fl fh) :=
  PE.imp (pe_slice (sl_list.or (sl_tupA.or sl_str)) he hl hh) fun σ H Q ⟨c, ρ, S, hr, he, q⟩ => by
    refine ⟨c, ρ, S, hr, he, (Aft.bind hr q).mono fun v c1 S1 H1 x1 h1 u hu => ?_⟩
    refine ⟨c1, ρ, S1, x1.rel, he.keep hr x1, (Aft.bind x1.rel h1).mono fun l c2 S2 H2 x2 h2 => ?_⟩
    refine ⟨c2, ρ, S2, x2.rel, (he.keep hr x1).keep x1.rel x2, (Aft.bind x2.rel h2).mono fun h c3 S3 H3 x3 h3 => ?_⟩
    have hv : VRep c3 H3 v u := (hu.keep x1.rel x2).keep x2.rel x3
    have hr3 := x3.rel
    cases e1 : lookR S3 v with
    | none => rw [e1] at h3; exact h3.elim
    | some d =>
      have hd := lookR_rep hr3 hv e1
      cases e2 : slD l h d with
      | none => simp only [e1, e2, Option.bind] at h3; exact h3.elim
      | some r =>
        simp only [e1, e2, Option.bind] at h3
        have q' : ∀ c' H' u, Nx c3 S3 H3 c' S3 H' → Rep c'.A H' r u → Q u H' := fun c' H' u x4 hu => h3 c' H' x4 u hu
        unfold slD at e2
        split at e2
        · cases e2
          obtain ⟨a, vs, rfl, g1, g2, g3⟩ := hd.list
          exact .inl ⟨a, vs, rfl, g1, fun p hp => q' c3 _ _ (Nx.new hr3 hp) (Rep.newLst hr3 hp (g3.cut l h) (Nat.le_trans (cutV_length _ _ _) g2))⟩
        · cases e2
          obtain ⟨a, vs, rfl, g1, g2, g3⟩ := (hd.plain (fun _ z => by cases z)).tup
          refine .inr (.inl ⟨a, vs, rfl, SqT.of g1, fun hw => ?_, fun _ p hp => ?_⟩)
          · rw [← g3.length] at hw
            rw [cut_all _ hw] at q'
            exact q' c3 H3 _ (Nx.refl hr3) (.tup g1 g2 g3)
          · exact q' c3 _ _ (Nx.new hr3 hp) (Rep.newTup hr3 hp (g3.cut l h) (Nat.le_trans (cutV_length _ _ _) g2))
        · split at e2
          · rename_i hz
            cases e2
            rw [(hd.plain (fun _ z => by cases z)).str]
            exact .inr (.inr ⟨_, rfl, hz, q' c3 H3 _ (Nx.refl hr3) (.str _)⟩)
          · cases e2
        · cases e2
end
noncomputable def aNil : La := fun _ S => .ok [] S
noncomputable def aCons (f : Ex) (g : La) : La := fun ρ S => (f ρ S).bind fun v S1 => (g ρ S1).bind fun vs S2 => .ok (v :: vs) S2
section
variable {X : Cx} {W : WX}
theorem sa_nil : SA X W [] aNil := PA.imp pa_nil fun σ H Q ⟨c, ρ, S, hr, he, q⟩ => q c H (Nx.refl hr) [] .nil
theorem sa_cons {e : Expr} {es : List Expr} {f : Ex} {g : La} (ha : SE X W e f) (hr : SA X W es g) (hs : starEach (e :: es) X.env = (false, eval e X.env) :: starEach es X.env := by rfl) : SA X W (e :: es) (aCons f g) :=
  PA.imp (pa_cons ha hr hs) fun σ H Q ⟨c, ρ, S, hr, he, q⟩ => by
    refine ⟨c, ρ, S, hr, he, (Aft.bind hr q).mono fun v c1 S1 H1 x1 h1 u hu => ?_⟩
    refine ⟨c1, ρ, S1, x1.rel, he.keep hr x1, (Aft.bind x1.rel h1).mono fun vs c2 S2 H2 x2 h2 us hus => ?_⟩
    exact h2 c2 H2 (Nx.refl x2.rel) (u :: us) (.cons (hu.keep x1.rel x2) hus)
noncomputable def allD : List Val → Option (List D)
  | [] => some []
  | .d x :: r => (allD r).map (x :: ·)
  | _ :: _ => none
theorem allD_rep {c : Cor Ω} {H : Hp} : ∀ {vs : List Val} {us : List V} {ds : List D}, VRepL c H vs us → allD vs = some ds → RepL c.A H ds us
  | _, _, _, .nil, e => by cases e; exact .nil
  | _, _, _, .cons (x := .d x) h r, e => by
    obtain ⟨es, h1, rfl⟩ := Option.map_eq_some_iff.mp (show (allD _).map (x :: ·) = some _ from e)
    exact .cons h (allD_rep r h1)
  | _, _, _, .cons (x := .loc _) h r, e => by cases e
  | _, _, _, .cons (x := .scr _) h r, e => by cases e
noncomputable def mkSeq (mk : List D → D) (vs : List Val) (S : Sto) : R Val := match allD vs with
  | some ds => if ds.length ≤ 1000 then .ok (.d (mk ds)) S else .bad
  | none => .bad
noncomputable def eTup (f : La) : Ex := fun ρ S => (f ρ S).bind (mkSeq .tuple)
noncomputable def eLst (f : La) : Ex := fun ρ S => (f ρ S).bind (mkSeq .list)
theorem mkSeq_r {mg : Str → Option Value} {mk : List D → D} {vs : List Val} {us : List V} {c : Cor Ω} {S : Sto} {H : Hp} {σ : L2.St} {k : Val → Cor Ω → Sto → Hp → Prop} (hv : VRepL c H vs us) (h : Aft mg W c S σ H (mkSeq mk vs S) k) :
    ∃ ds, RepL c.A H ds us ∧ us.length ≤ sizeLine ∧ ∀ c' H', Nx c S H c' S H' → k (.d (mk ds)) c' S H' := by
  unfold mkSeq at h
  split at h
  · rename_i ds e
    split at h
    · rename_i hl
      have r := allD_rep hv e
      exact ⟨ds, r, by rw [← r.length, sizeLine_eq]; omega, fun c' H' x => h c' H' x⟩
    · exact h.elim
  · exact h.elim
theorem se_tup {es : List Expr} {f : La} {x1} {pos : Pos} (h : SA X W es f) : SE X W (.Tuple es x1 pos) (eTup f) := PE.imp (pe_tup h) fun σ H Q ⟨c, ρ, S, hr, he, q⟩ => by
  refine ⟨c, ρ, S, hr, he, (Aft.bind hr q).mono fun vs c1 S1 H1 x1 h1 us hus => ?_⟩
  obtain ⟨ds, r, hl, q⟩ := mkSeq_r hus h1
  exact ⟨hl, fun p hp => q c1 _ (Nx.new x1.rel hp) _ (Rep.newTup x1.rel hp r hl)⟩
theorem se_lst {es : List Expr} {f : La} {pos : Pos} (h : SA X W es f) : SE X W (.List es pos) (eLst f) := PE.imp (pe_lst h) fun σ H Q ⟨c, ρ, S, hr, he, q⟩ => by
  refine ⟨c, ρ, S, hr, he, (Aft.bind hr q).mono fun vs c1 S1 H1 x1 h1 us hus => ?_⟩
  obtain ⟨ds, r, hl, q⟩ := mkSeq_r hus h1
  exact ⟨hl, fun p hp => q c1 _ (Nx.new x1.rel hp) _ (Rep.newLst x1.rel hp r hl)⟩
end
noncomputable def truthD : D → Option Bool
  | .none => some false
  | .bool b => some b
  | .int i => some (i != 0)
  | .str x => if x.length ≤ sizeLine then some ((x.length : Int) != 0) else none
  | .list xs => some (!xs.isEmpty)
  | .tuple xs => some (!xs.isEmpty)
  | .dict _ => none
noncomputable def truV (v : Val) (S : Sto) : R Bool := match (look S v).bind truthD with
  | some b => .ok b S
  | none => .bad
noncomputable def tTru (f : Ex) : Te := fun ρ S => (f ρ S).bind truV
noncomputable def tNotE (f : Te) : Te := fun ρ S => (f ρ S).bind fun b S1 => .ok (!b) S1
noncomputable def tAndE (f g : Te) : Te := fun ρ S => (f ρ S).bind fun b S1 => match b with
  | true => g ρ S1
  | false => .ok false S1
noncomputable def tOrE (f g : Te) : Te := fun ρ S => (f ρ S).bind fun b S1 => match b with
  | true => .ok true S1
  | false => g ρ S1
noncomputable def eAnd (f g : Ex) : Ex := fun ρ S => (f ρ S).bind fun v S1 => match v with
  | .d (.bool true) => g ρ S1
  | .d (.bool false) => .ok (.d (.bool false)) S1
  | _ => .bad
noncomputable def eNot (f : Ex) : Ex := fun ρ S => (f ρ S).bind fun v S1 => match v with
  | .d (.bool b) => .ok (.d (.bool (!b))) S1
  | _ => .bad
noncomputable def eNeg (f : Ex) : Ex := fun ρ S => (f ρ S).bind fun v S1 => match v with
  | .d (.int i) => .ok (.d (.int (-i))) S1
  | _ => .bad
section
variable {X : Cx} {W : WX} {a b : Expr} {pos : Pos} {rest : List Expr}
theorem isEmpty_len {α β : Type} {xs : List α} {ys : List β} (h : xs.length = ys.length) : xs.isEmpty = ys.isEmpty := by
  cases xs <;> cases ys <;> first | rfl | simp at h
theorem truthD_ok {K : PySem.W.Frag} {c : Cor Ω} {H : Hp} {d : D} {u : V} {k : Bool} (h : LRep c H d u) (e : truthD d = some k) : TruV K u H k := by
  unfold truthD at e
  split at e
  · rw [h.non]; exact (Option.some.inj e).symm
  · rw [h.bl]; exact (Option.some.inj e).symm
  · rw [h.int]; exact (Option.some.inj e).symm
  · split at e
    · rename_i hl; rw [h.str]; exact ⟨hl, (Option.some.inj e).symm⟩
    · cases e
  · obtain ⟨a, vs, rfl, h1, h2, h3⟩ := h.list
    exact .inl ⟨vs, SqL.of h1, by rw [← isEmpty_len h3.length]; exact (Option.some.inj e).symm⟩
  · obtain ⟨a, vs, rfl, h1, h2, h3⟩ := h.tup
    exact .inr (.inl ⟨vs, SqT.of h1, by rw [← isEmpty_len h3.length]; exact (Option.some.inj e).symm⟩)
  · cases e
theorem st_tru {f : Ex} (h : SE X W a f) (he : ∀ whole, isTrue a X.env whole = (do let v ← whole; standAt a.pos; holding [v] (truthy v)) := by intro _; rfl) : ST X W a (tTru f) :=
  PT.imp (pt_truth h he) fun σ H Q ⟨c, ρ, S, hr, he, q⟩ => by
    refine ⟨c, ρ, S, hr, he, (Aft.bind hr q).mono fun v c1 S1 H1 x1 h1 u hu => ?_⟩
    unfold truV at h1
    split at h1
    · rename_i b e
      obtain ⟨d, e1, e2⟩ := Option.bind_eq_some_iff.mp e
      exact ⟨b, truthD_ok (look_rep x1.rel hu e1) e2, h1 c1 H1 (Nx.refl x1.rel)⟩
    · exact h1.elim
theorem st_not {f : Te} (h : ST X W a f) : ST X W (.UnaryOp .Not a pos) (tNotE f) := PT.imp (pt_not h) fun σ H Q ⟨c, ρ, S, hr, he, q⟩ =>
  ⟨c, ρ, S, hr, he, (Aft.bind hr q).mono fun v c1 S1 H1 x1 h1 => h1 c1 H1 (Nx.refl x1.rel)⟩
theorem sw_and1 {f : Te} (h : ST X W a f) : SW X W (.BoolOp .And [a] pos) f := pw_and1 h
theorem sw_or1 {f : Te} (h : ST X W a f) : SW X W (.BoolOp .Or [a] pos) f := pw_or1 h
theorem sw_and {f g : Te} (h : ST X W a f) (h' : SW X W (.BoolOp .And (b :: rest) pos) g) : SW X W (.BoolOp .And (a :: b :: rest) pos) (tAndE f g) := PW.imp (pw_and h h') fun σ H Q ⟨c, ρ, S, hr, he, q⟩ => by
  refine ⟨c, ρ, S, hr, he, (Aft.bind hr q).mono fun v c1 S1 H1 x1 h1 => ?_⟩
  cases v with
  | true => exact iteT ⟨c1, ρ, S1, x1.rel, he.keep hr x1, h1⟩
  | false => exact iteF (h1 c1 H1 (Nx.refl x1.rel))
theorem sw_or {f g : Te} (h : ST X W a f) (h' : SW X W (.BoolOp .Or (b :: rest) pos) g) : SW X W (.BoolOp .Or (a :: b :: rest) pos) (tOrE f g) := PW.imp (pw_or h h') fun σ H Q ⟨c, ρ, S, hr, he, q⟩ => by
  refine ⟨c, ρ, S, hr, he, (Aft.bind hr q).mono fun v c1 S1 H1 x1 h1 => ?_⟩
  cases v with
  | true => exact iteT (h1 c1 H1 (Nx.refl x1.rel))
  | false => exact iteF ⟨c1, ρ, S1, x1.rel, he.keep hr x1, h1⟩
theorem se_one {op} {f : Ex} (h : SE X W a f) : SE X W (.BoolOp op [a] pos) f := pe_one h
theorem se_and {f g : Ex} (h : SE X W a f) (h' : SE X W (.BoolOp .And (b :: rest) pos) g) : SE X W (.BoolOp .And (a :: b :: rest) pos) (eAnd f g) := PE.imp (pe_and h h') fun σ H Q ⟨c, ρ, S, hr, he, q⟩ => by
  refine ⟨c, ρ, S, hr, he, (Aft.bind hr q).mono fun v c1 S1 H1 x1 h1 u hu => ?_⟩
  split at h1
  · cases hu; exact ⟨true, rfl, iteT ⟨c1, ρ, S1, x1.rel, he.keep hr x1, h1⟩⟩
  · cases hu; exact ⟨false, rfl, iteF (h1 c1 H1 (Nx.refl x1.rel) _ (.bl _))⟩
  · exact h1.elim
theorem se_not {f : Ex} (h : SE X W a f) : SE X W (.UnaryOp .Not a pos) (eNot f) := PE.imp (pe_not h) fun σ H Q ⟨c, ρ, S, hr, he, q⟩ => by
  refine ⟨c, ρ, S, hr, he, (Aft.bind hr q).mono fun v c1 S1 H1 x1 h1 u hu => ?_⟩
  split at h1
  · cases hu; exact ⟨_, rfl, h1 c1 H1 (Nx.refl x1.rel) _ (.bl _)⟩
  · exact h1.elim
theorem se_neg {f : Ex} (h : SE X W a f) : SE X W (.UnaryOp .USub a pos) (eNeg f) := PE.imp (pe_un un_neg h) fun σ H Q ⟨c, ρ, S, hr, he, q⟩ => by
  refine ⟨c, ρ, S, hr, he, (Aft.bind hr q).mono fun v c1 S1 H1 x1 h1 u hu => ?_⟩
  split at h1
  · cases hu; exact ⟨_, rfl, h1 c1 H1 (Nx.refl x1.rel) _ (.int _)⟩
  · exact h1.elim
noncomputable def eChain (op op' : D → D → Option D) (fa fb fc : Ex) : Ex := fun ρ S => (fa ρ S).bind fun v S1 => (fb ρ S1).bind fun w S2 => (op2 op v w S2).bind fun z S3 => match z with
  | .d (.bool true) => (fc ρ S3).bind fun x S4 => op2 op' w x S4
  | .d (.bool false) => .ok (.d (.bool false)) S3
  | _ => .bad
theorem chain_r {mg : Str → Option Value} {op op' : D → D → Option D} {fa fb fc : Ex} {σ : L2.St} {H : Hp} {Q : VK} (h : tE Ω mg W (eChain op op' fa fb fc) σ H Q) : tChain (r2D Ω op) (r2D Ω op') (tE Ω mg W fa) (tE Ω mg W fb) (tE Ω mg W fc) σ H Q := by
  obtain ⟨c, ρ, S, hr, he, q⟩ := h
  refine two hr he q fun v w c2 S2 H2 x y x1 hv hw h => ?_
  refine op2_r x1.rel hv hw ((Aft.bind x1.rel h).mono fun z c3 S3 H3 x3 h3 u hu => ?_)
  split at h3
  · cases hu
    refine ⟨true, rfl, iteT ⟨c3, ρ, S3, x3.rel, (he.keep hr x1).keep x1.rel x3, (Aft.bind x3.rel h3).mono fun z4 c4 S4 H4 x4 h4 u4 hu4 => ?_⟩⟩
    exact op2_r x4.rel ((hw.keep x1.rel x3).keep x3.rel x4) hu4 h4
  · cases hu; exact ⟨false, rfl, iteF (h3 c3 H3 (Nx.refl x3.rel) _ (.bl _))⟩
  · exact h3.elim
theorem se_chain {o o' : CmpOp} {op op' : D → D → Option D} {cc : Expr} {fa fb fc : Ex} (h1 : OpR X (compareOp o) (r2D X.K op)) (h2 : OpR X (compareOp o') (r2D X.K op')) (ha : SE X W a fa) (hb : SE X W b fb) (hc : SE X W cc fc)
    (hm : lastMarks [o, o'] [b, cc] = false := by with_unfolding_all rfl) : SE X W (.Compare a [o, o'] [b, cc] pos) (eChain op op' fa fb fc) := PE.imp (pe_chain h1 h2 ha hb hc hm) fun σ H Q h => chain_r h
end
end DL
namespace DL
open PySem PySem.Spec PyProof.Rows L2
noncomputable def lookAll (S : Sto) : List Val → Option (List D)
  | [] => some []
  | v :: r => (lookR S v).bind fun x => (lookAll S r).map (x :: ·)
inductive LRL (c : Cor Ω) (H : Hp) : List D → List V → Prop
  | nil : LRL c H [] []
  | cons {d : D} {v : V} {ds : List D} {vs : List V} : LRepR c H d v → LRL c H ds vs → LRL c H (d :: ds) (v :: vs)
theorem lookAll_rep {c : Cor Ω} {S : Sto} {H : Hp} (r : Rel c S H) : ∀ {vs : List Val} {us : List V} {ds : List D}, VRepL c H vs us → lookAll S vs = some ds → LRL c H ds us
  | _, _, _, .nil, e => by cases e; exact .nil
  | _, _, _, .cons h t, e => by
    obtain ⟨x, e1, e2⟩ := Option.bind_eq_some_iff.mp (show (lookR S _).bind _ = some _ from e)
    obtain ⟨es, e3, rfl⟩ := Option.map_eq_some_iff.mp e2
    exact .cons (lookR_rep r h e1) (lookAll_rep r t e3)
theorem LRL.one {c : Cor Ω} {H : Hp} {d : D} {us : List V} (h : LRL c H [d] us) : ∃ u, us = [u] ∧ LRepR c H d u := by
  cases h with | cons h t => cases t; exact ⟨_, rfl, h⟩
theorem LRL.two {c : Cor Ω} {H : Hp} {d e : D} {us : List V} (h : LRL c H [d, e] us) : ∃ u v, us = [u, v] ∧ LRepR c H d u ∧ LRepR c H e v := by
  cases h with | cons h t => cases t with | cons h' t => cases t; exact ⟨_, _, rfl, h, h'⟩
theorem LRepR.int {c : Cor Ω} {H : Hp} {i : Int} {u : V} (h : LRepR c H (.int i) u) : u = .int i := (h.plain (fun _ z => by cases z)).int
theorem LRepR.bl {c : Cor Ω} {H : Hp} {i : Bool} {u : V} (h : LRepR c H (.bool i) u) : u = .bl i := (h.plain (fun _ z => by cases z)).bl
theorem LRepR.str {c : Cor Ω} {H : Hp} {i : Str} {u : V} (h : LRepR c H (.str i) u) : u = .str i := (h.plain (fun _ z => by cases z)).str
noncomputable def eCB (op : List D → Option D) (f : La) : Ex := fun ρ S => (f ρ S).bind fun vs S1 => ofO ((lookAll S1 vs).bind op) S1
noncomputable def rND (Ω : PySem.W.Frag) (op : List D → Option D) : List V → Hp → VK → Prop := fun xs H Q => ∃ (c : Cor Ω) (S : Sto) (ds : List D) (r : D), Rel c S H ∧ LRL c H ds xs ∧ op ds = some r ∧ ∀ c' H' u, Nx c S H c' S H' → Rep c'.A H' r u → Q u H'
section
variable {X : Cx} {W : WX}
theorem eCB_r {mg : Str → Option Value} {op : List D → Option D} {f : La} {σ : L2.St} {H : Hp} {Q : VK} (h : tE Ω mg W (eCB op f) σ H Q) : tCB (rND Ω op) (tA Ω mg W f) σ H Q := by
  obtain ⟨c, ρ, S, hr, he, q⟩ := h
  refine ⟨c, ρ, S, hr, he, (Aft.bind hr q).mono fun vs c1 S1 H1 x1 h1 us hus => ?_⟩
  cases e1 : lookAll S1 vs with
  | none => rw [e1] at h1; exact h1.elim
  | some ds =>
    cases e2 : op ds with
    | none => simp only [e1, e2, Option.bind] at h1; exact h1.elim
    | some r =>
      simp only [e1, e2, Option.bind] at h1
      exact ⟨c1, S1, ds, r, x1.rel, lookAll_rep x1.rel hus e1, e2, fun c' H' u x2 hu => h1 c' H' x2 u hu⟩
theorem se_callB {id : String} {op : List D → Option D} {x : Str} {e : Expr} {es : List Expr} {f : La} {p pos : Pos} (hc : CallR X (.builtin id) (rND X.K op)) (hg : Gl X x) (hm : X.mg x = none) (hv : bootBuiltins x = some (.builtin id)) (ha : SA X W (e :: es) f)
    (hn : x ≠ "__name__" := by decide) (hdb : (x == ("__debug__" : Str)) = false := by decide) (he : starEach (e :: es) X.env = (false, eval e X.env) :: starEach es X.env := by rfl) (hpl : (backTo pos (starEach es X.env)).any (·.1) = false := by rfl) :
    SE X W (.Call (.Name x p) (e :: es) [] pos) (eCB op f) := PE.imp (pe_callB hc hg hm hv ha hn hdb he hpl) fun σ H Q h => eCB_r h
theorem se_callTy {T : String} {op : List D → Option D} {x : Str} {e : Expr} {es : List Expr} {f : La} {p pos : Pos} (hc : CallR X (.type T) (rND X.K op)) (hg : Gl X x) (hm : X.mg x = none) (hv : bootBuiltins x = some (.type T)) (ha : SA X W (e :: es) f)
    (hn : x ≠ "__name__" := by decide) (hdb : (x == ("__debug__" : Str)) = false := by decide) (he : starEach (e :: es) X.env = (false, eval e X.env) :: starEach es X.env := by rfl) (hpl : (backTo pos (starEach es X.env)).any (·.1) = false := by rfl) :
    SE X W (.Call (.Name x p) (e :: es) [] pos) (eCB op f) := PE.imp (pe_callTy hc hg hm hv ha hn hdb he hpl) fun σ H Q h => eCB_r h
end
noncomputable def intsOf : List D → Option (List Int)
  | [] => some []
  | .int i :: r => (intsOf r).map (i :: ·)
  | _ :: _ => none
noncomputable def blsOf : List D → Option (List Bool)
  | [] => some []
  | .bool i :: r => (blsOf r).map (i :: ·)
  | _ :: _ => none
noncomputable def lenD : List D → Option D
  | [.list xs] => some (.int xs.length)
  | [.tuple xs] => some (.int xs.length)
  | [.dict xs] => some (.int xs.length)
  | [.str x] => if x.length ≤ sizeLine then some (.int x.length) else none
  | _ => none
noncomputable def absD : List D → Option D
  | [.int i] => some (.int (if i < 0 then -i else i))
  | _ => none
noncomputable def max2D : List D → Option D
  | [.int i, .int j] => some (.int (if j > i then j else i))
  | _ => none
noncomputable def min2D : List D → Option D
  | [.int i, .int j] => some (.int (if j < i then j else i))
  | _ => none
noncomputable def sumD : List D → Option D
  | [.list xs] => (intsOf xs).map fun ns => .int ns.sum
  | _ => none
noncomputable def allBD : List D → Option D
  | [.list xs] => (blsOf xs).map fun ns => .bool (ns.all id)
  | _ => none
noncomputable def strD : List D → Option D
  | [.int i] => if i.natAbs.log2 < 1920 then some (.str (toString i)) else none
  | _ => none
noncomputable def divmodD : List D → Option D
  | [.int i, .int j] => if 0 < j ∧ j < 1073741824 then some (.tuple [.int (i / j), .int (i % j)]) else none
  | _ => none
noncomputable def tupleD : List D → Option D
  | [.list xs] => some (.tuple xs)
  | [.tuple xs] => some (.tuple xs)
  | _ => none
section
variable {A : Addr → Prop} {H : Hp}
theorem intsOf_rep : ∀ {ds : List D} {vs : List V} {ns : List Int}, RepL A H ds vs → intsOf ds = some ns → vs = ns.map V.int
  | _, _, _, .nil, e => by cases e; rfl
  | _, _, _, .cons (d := .int i) h r, e => by
    obtain ⟨es, h1, rfl⟩ := Option.map_eq_some_iff.mp (show (intsOf _).map (i :: ·) = some _ from e)
    cases h
    rw [intsOf_rep r h1]; rfl
  | _, _, _, .cons (d := .none) h r, e => by cases e
  | _, _, _, .cons (d := .bool _) h r, e => by cases e
  | _, _, _, .cons (d := .str _) h r, e => by cases e
  | _, _, _, .cons (d := .list _) h r, e => by cases e
  | _, _, _, .cons (d := .tuple _) h r, e => by cases e
  | _, _, _, .cons (d := .dict _) h r, e => by cases e
theorem blsOf_rep : ∀ {ds : List D} {vs : List V} {ns : List Bool}, RepL A H ds vs → blsOf ds = some ns → vs = ns.map V.bl
  | _, _, _, .nil, e => by cases e; rfl
  | _, _, _, .cons (d := .bool i) h r, e => by
    obtain ⟨es, h1, rfl⟩ := Option.map_eq_some_iff.mp (show (blsOf _).map (i :: ·) = some _ from e)
    cases h
    rw [blsOf_rep r h1]; rfl
  | _, _, _, .cons (d := .none) h r, e => by cases e
  | _, _, _, .cons (d := .int _) h r, e => by cases e
  | _, _, _, .cons (d := .str _) h r, e => by cases e
  | _, _, _, .cons (d := .list _) h r, e => by cases e
  | _, _, _, .cons (d := .tuple _) h r, e => by cases e
  | _, _, _, .cons (d := .dict _) h r, e => by cases e
theorem RepK.length : ∀ {kds : List (D × D)} {kvs : List (Key × V)}, RepK A H kds kvs → kds.length = kvs.length
  | _, _, .nil => rfl
  | _, _, .cons _ r => by rw [List.length_cons, List.length_cons, RepK.length r]
end
section
variable {X : Cx}
theorem call_lenR : CallR X (.builtin "len") (fun xs H Q => ∃ a kvs, xs = [V.ref a] ∧ Rd H a (.dK kvs) ∧ Q (.int kvs.length) H) := by
  intro pins s σ H xs us Q I r h
  obtain ⟨a, kvs, rfl, ha, q⟩ := h
  obtain ⟨u, rfl, ru⟩ := vals1 r
  cases ru
  exact d_len I ha fun t s' I' => ⟨.int kvs.length, H, I', ⟨t, rfl⟩, q⟩
theorem b_len : CallR X (.builtin "len") (rND X.K lenD) := CallR.imp (call_len.or call_lenR) fun xs H Q ⟨c, S, ds, r, hr, hd, ho, q⟩ => by
  unfold lenD at ho
  split at ho
  · cases ho
    obtain ⟨u, rfl, h⟩ := hd.one
    obtain ⟨a, vs, rfl, h1, h2, h3⟩ := h.list
    exact .inl ⟨_, vs.length, rfl, .inl ⟨vs, h1, rfl⟩, by rw [← h3.length]; exact q c H _ (Nx.refl hr) (.int _)⟩
  · cases ho
    obtain ⟨u, rfl, h⟩ := hd.one
    obtain ⟨a, vs, rfl, h1, h2, h3⟩ := (h.plain (fun _ z => by cases z)).tup
    exact .inl ⟨_, vs.length, rfl, .inr ⟨vs, SqT.of h1, rfl⟩, by rw [← h3.length]; exact q c H _ (Nx.refl hr) (.int _)⟩
  · cases ho
    obtain ⟨u, rfl, h⟩ := hd.one
    obtain ⟨a, vs, rfl, h1, h2, h3⟩ := (h.plain (fun _ z => by cases z)).dict
    exact .inr ⟨_, vs, rfl, h1, by rw [← h3.length]; exact q c H _ (Nx.refl hr) (.int _)⟩
  · split at ho
    · rename_i hl
      cases ho
      obtain ⟨u, rfl, h⟩ := hd.one
      rw [h.str]
      exact .inl ⟨_, _, rfl, ⟨hl, rfl⟩, q c H _ (Nx.refl hr) (.int _)⟩
    · cases ho
  · cases ho
theorem b_abs : CallR X (.builtin "abs") (rND X.K absD) := CallR.imp call_abs fun xs H Q ⟨c, S, ds, r, hr, hd, ho, q⟩ => by
  unfold absD at ho
  split at ho
  · cases ho
    obtain ⟨u, rfl, h⟩ := hd.one
    rw [h.int]; exact ⟨_, rfl, q c H _ (Nx.refl hr) (.int _)⟩
  · cases ho
theorem b_max2 (hc : X.calm = true) : CallR X (.builtin "max") (rND X.K max2D) := CallR.imp (call_max2 hc) fun xs H Q ⟨c, S, ds, r, hr, hd, ho, q⟩ => by
  unfold max2D at ho
  split at ho
  · cases ho
    obtain ⟨u, v, rfl, h, h'⟩ := hd.two
    rw [h.int, h'.int]; exact ⟨_, _, rfl, q c H _ (Nx.refl hr) (.int _)⟩
  · cases ho
theorem b_min2 (hc : X.calm = true) : CallR X (.builtin "min") (rND X.K min2D) := CallR.imp (call_min2 hc) fun xs H Q ⟨c, S, ds, r, hr, hd, ho, q⟩ => by
  unfold min2D at ho
  split at ho
  · cases ho
    obtain ⟨u, v, rfl, h, h'⟩ := hd.two
    rw [h.int, h'.int]; exact ⟨_, _, rfl, q c H _ (Nx.refl hr) (.int _)⟩
  · cases ho
theorem b_sum (hc : X.calm = true) : CallR X (.builtin "sum") (rND X.K sumD) := CallR.imp (cr_sum hc) fun xs H Q ⟨c, S, ds, r, hr, hd, ho, q⟩ => by
  unfold sumD at ho
  split at ho
  · obtain ⟨ns, h1, rfl⟩ := Option.map_eq_some_iff.mp ho
    obtain ⟨u, rfl, h⟩ := hd.one
    obtain ⟨a, vs, rfl, h2, h3, h4⟩ := h.list
    rw [intsOf_rep h4 h1] at h2
    exact ⟨_, ns, rfl, h2, q c H _ (Nx.refl hr) (.int _)⟩
  · cases ho
theorem b_all (hc : X.calm = true) : CallR X (.builtin "all") (rND X.K allBD) := CallR.imp (cr_all hc) fun xs H Q ⟨c, S, ds, r, hr, hd, ho, q⟩ => by
  unfold allBD at ho
  split at ho
  · obtain ⟨ns, h1, rfl⟩ := Option.map_eq_some_iff.mp ho
    obtain ⟨u, rfl, h⟩ := hd.one
    obtain ⟨a, vs, rfl, h2, h3, h4⟩ := h.list
    rw [blsOf_rep h4 h1] at h2
    exact ⟨_, ns, rfl, h2, q c H _ (Nx.refl hr) (.bl _)⟩
  · cases ho
theorem b_str : CallR X (.type "str") (rND X.K strD) := CallR.imp call_str_int fun xs H Q ⟨c, S, ds, r, hr, hd, ho, q⟩ => by
  unfold strD at ho
  split at ho
  · split at ho
    · rename_i hl
      cases ho
      obtain ⟨u, rfl, h⟩ := hd.one
      rw [h.int]; exact ⟨_, rfl, hl, q c H _ (Nx.refl hr) (.str _)⟩
    · cases ho
  · cases ho
theorem b_divmod : CallR X (.builtin "divmod") (rND X.K divmodD) := CallR.imp call_divmod fun xs H Q ⟨c, S, ds, r, hr, hd, ho, q⟩ => by
  unfold divmodD at ho
  split at ho
  · split at ho
    · rename_i hl
      cases ho
      obtain ⟨u, v, rfl, h, h'⟩ := hd.two
      rw [h.int, h'.int]
      exact ⟨_, _, rfl, hl, fun p hp => q c _ _ (Nx.new hr hp) (Rep.newTup hr hp (.cons (.int _) (.cons (.int _) .nil)) (by rw [sizeLine_eq]; show 2 ≤ 16777216; decide))⟩
    · cases ho
  · cases ho
theorem b_tuple : CallR X (.type "tuple") (rND X.K tupleD) := CallR.imp call_tuple_of fun xs H Q ⟨c, S, ds, r, hr, hd, ho, q⟩ => by
  unfold tupleD at ho
  split at ho
  · cases ho
    obtain ⟨u, rfl, h⟩ := hd.one
    obtain ⟨a, vs, rfl, h2, h3, h4⟩ := h.list
    exact ⟨a, vs, rfl, .inl ⟨h2, fun p hp => q c _ _ (Nx.new hr hp) (Rep.newTup hr hp h4 h3)⟩⟩
  · cases ho
    obtain ⟨u, rfl, h⟩ := hd.one
    obtain ⟨a, vs, rfl, h2, h3, h4⟩ := (h.plain (fun _ z => by cases z)).tup
    exact ⟨a, vs, rfl, .inr ⟨SqT.of h2, q c H _ (Nx.refl hr) (.tup h2 h3 h4)⟩⟩
  · cases ho
end
noncomputable def tyD : D → String
  | .none => "NoneType"
  | .bool _ => "bool"
  | .int _ => "int"
  | .str _ => "str"
  | .list _ => "list"
  | .tuple _ => "tuple"
  | .dict _ => "dict"
noncomputable def isiD (T : String) (d : D) : Bool := match d with
  | .none => T == "NoneType"
  | .bool _ => T == "bool" || T == "int"
  | .int _ => T == "int"
  | .str _ => T == "str"
  | .list _ => T == "list"
  | .tuple _ => T == "tuple"
  | .dict _ => T == "dict"
noncomputable def tyOk (T : String) : Bool := T == "int" || T == "bool" || T == "str" || T == "list" || T == "tuple"
theorem kit_isi {K : PySem.W.Frag} {T : String} (h : tyOk T = true) (d : D) : PySem.W.kitOne K (.type (tyD d)) (.type T) = some (isiD T d) := by
  unfold tyOk at h
  simp only [Bool.or_eq_true, beq_iff_eq] at h
  rcases h with (((rfl | rfl) | rfl) | rfl) | rfl <;> cases d <;> simp only [isiD, tyD] <;> exact kit_ty (by decide +kernel)
theorem LRepR.ty {c : Cor Ω} {H : Hp} {d : D} {u : V} (h : LRepR c H d u) : TyX Ω H u (.type (tyD d)) := by
  cases h with
  | of h =>
    cases h with
    | of h =>
      cases h with
      | non => exact .base .non
      | bl b => exact .base (.bl b)
      | int b => exact .base (.int b)
      | str b => exact .base (.str b)
      | tup h _ _ => exact .base (.tup h)
      | lst _ h _ _ => exact .base (.lst h)
      | dic _ h _ _ =>
        rcases h with h | ⟨o, h⟩
        · exact .base (.dK h)
        · exact .fDict h
    | lst h _ _ => exact .base (.lst h)
    | dic h _ _ => exact .base (.dK h)
  | scr h _ _ =>
    rcases h with (h | ⟨o, h⟩) | h
    · exact .base (.lst h)
    · exact .base (.frz h)
    · rcases h (fun _ => none) with (z | ⟨o, z⟩) | ⟨o, its, n, h1, h2, _⟩
      · cases z
      · cases z
      · exact .kList h1 h2
noncomputable def eIsi (T : String) (f : Ex) : Ex := fun ρ S => (f ρ S).bind fun v S1 => match lookR S1 v with
  | some d => .ok (.d (.bool (isiD T d))) S1
  | none => .bad
section
variable {X : Cx} {W : WX}
theorem se_isi {T : String} {e : Expr} {f : Ex} {x : Str} {p q pos : Pos} (hT : tyOk T = true) (he : SE X W e f) (hg : Gl X "isinstance") (hm : X.mg "isinstance" = none) (hg2 : Gl X x) (hm2 : X.mg x = none) (hv : bootBuiltins x = some (.type T))
    (hn : x ≠ "__name__" := by decide) (hdb : (x == ("__debug__" : Str)) = false := by decide)
    (hs : starEach (e :: [.Name x q]) X.env = (false, eval e X.env) :: starEach [.Name x q] X.env := by rfl) (hs2 : starEach [.Name x q] X.env = (false, eval (.Name x q) X.env) :: starEach [] X.env := by rfl) (hpl : (backTo pos (starEach [.Name x q] X.env)).any (·.1) = false := by rfl) :
    SE X W (.Call (.Name "isinstance" p) [e, .Name x q] [] pos) (eIsi T f) :=
  PE.imp (pe_callB call_isi hg hm (by decide +kernel) (pa_cons he (pa_cons (pe_bltn (v := .ty T) hg2 hm2 hv rfl hn hdb) pa_nil hs2) hs) (by decide) (by decide) hs hpl) fun σ H Q ⟨c, ρ, S, hr, he, q⟩ => by
    refine ⟨c, ρ, S, hr, he, (Aft.bind hr q).mono fun v c1 S1 H1 x1 h1 u hu => ?_⟩
    cases e1 : lookR S1 v with
    | none => simp only [e1] at h1; exact h1.elim
    | some d =>
      simp only [e1] at h1
      have hd := lookR_rep x1.rel hu e1
      exact ⟨u, .ty T, .type (tyD d), .type T, isiD T d, rfl, .ty T, hd.ty, kit_isi hT d, h1 c1 H1 (Nx.refl x1.rel) _ (.bl _)⟩
end
end DL
namespace DL
open PySem PySem.Spec PyProof.Rows L2
noncomputable abbrev Fn := List Val → Sto → R Val
noncomputable def spG (Ω : PySem.W.Frag) (mg : Str → Option Value) (n : Nat) (F : Fn) : Sp := fun vs H Q E => ∃ (c : Cor Ω) (S : Sto) (as : List Val), Rel c S H ∧ VRepL c H as vs ∧ as.length = n ∧ match F as S with
  | .ok v S' => ∀ c' H' u, Nx c S H c' S' H' → VRep c' H' v u → Q u H'
  | .exc x S' => ∀ c' H' cls d, Nx c S H c' S' H' → XRep mg x c'.A cls d H' → E cls d H'
  | .bad => False
noncomputable def fin (r : R Flow) : R Val := match r with
  | .ok (.nx _) S => .ok (.d .none) S
  | .ok (.rt v) S => .ok v S
  | .ok (.ex x _) S => .exc x S
  | _ => .bad
noncomputable def mkFn (k : Nat) (g : Blk) : Fn := fun as S => fin (g (as.map some ++ List.replicate k none) S)
theorem start_rep {c : Cor Ω} {H : Hp} : ∀ {as : List Val} {vs : List V} (k : Nat), VRepL c H as vs → RepE c H (as.map some ++ List.replicate k none) (vs.map some ++ List.replicate k none) := by
  intro as vs k h
  refine ⟨by simp [h.length], ?_⟩
  induction h with
  | nil =>
    intro i v e
    simp only [List.map_nil, List.nil_append] at e
    rw [List.getElem?_replicate] at e
    split at e <;> cases e
  | cons h t ih =>
    intro i v e
    cases i with
    | zero => simp at e; subst e; exact ⟨_, rfl, h⟩
    | succ i =>
      obtain ⟨u, h1, h2⟩ := ih i v (by simpa using e)
      exact ⟨u, by simpa using h1, h2⟩
section
variable {P : Program} {w : World} {K : PySem.W.Frag} {mg : Str → Option Value} {base : Heap}
noncomputable abbrev wDef (E : XK) : WX := fun cls d _ H => E cls d H
theorem okF {x qual : Str} {st : Stmt} {f : Addr} {fd : FuncData} {N ps : List Str} {k : Nat} {g : Blk} (F : Fun K x qual st f fd) (S : FnScope N ps (defScope st))
    (hb : ∀ (cdv : Value) (A : Around) (outer : List Env) (s : Shared) (H : Hp) (E : XK), Room k (A.deeper (envOfC qual (defScope st) s.heap.objs.size f cdv)) →
      SSs (cxOf (L2.CX P w) P w K mg base N qual (defScope st) f cdv A outer s H E) (wDef E) (defBody st) g) :
    FnOk P w K mg base (L2.CX P w) (k + 1) f fd ps (spG K mg ps.length (mkFn (N.length - ps.length) g)) := by
  refine F.okX S (fun vs H Q E ⟨c, S, as, hr, hv, hl, _⟩ => by rw [← hv.length]; exact hl) fun cdv A outer s H vs Q E hr h => ⟨_, hb cdv A outer s H E hr, ?_⟩
  obtain ⟨c, S, as, hrel, hv, hl, q⟩ := h
  refine ⟨c, as.map some ++ List.replicate (N.length - ps.length) none, S, hrel, ?_, ?_⟩
  · have e : N.length - vs.length = N.length - ps.length := by rw [← hv.length, hl]
    unfold L2.start
    rw [e]
    exact start_rep _ hv
  · unfold mkFn at q
    show AftS mg (wDef E) c S H _ _
    revert q
    cases g (as.map some ++ List.replicate (N.length - ps.length) none) S with
    | ok fl S' =>
      cases fl with
      | nx ρ => exact fun q c' σ' H' x e => q c' H' .non x .non
      | rt v => exact fun q c' H' u x e => q c' H' u x e
      | ex z ρ => exact fun q c' σ' H' cls d x e y => q c' H' cls d x y
      | bk ρ => exact fun q => q.elim
      | ct ρ => exact fun q => q.elim
    | exc z S' => exact fun q => q.elim
    | bad => exact fun q => q.elim
theorem okG {x qual : Str} {st : Stmt} {f : Addr} {fd : FuncData} {N ps : List Str} {k n m : Nat} {F : Fn} (g : Blk) (U : Fun K x qual st f fd) (S : FnScope N ps (defScope st)) (hF : F = mkFn m g) (hm : N.length - ps.length = m) (hn : ps.length = n)
    (hb : ∀ (cdv : Value) (A : Around) (outer : List Env) (s : Shared) (H : Hp) (E : XK), Room k (A.deeper (envOfC qual (defScope st) s.heap.objs.size f cdv)) →
      SSs (cxOf (L2.CX P w) P w K mg base N qual (defScope st) f cdv A outer s H E) (wDef E) (defBody st) g) :
    FnOk P w K mg base (L2.CX P w) (k + 1) f fd ps (spG K mg n F) := by
  subst hF hm hn
  exact okF U S hb
end
noncomputable def lent : List Val → List Nat
  | [] => []
  | .loc n :: r => n :: lent r
  | _ :: r => lent r
noncomputable def rebase : List Val → Nat → List Val
  | [], _ => []
  | .loc _ :: r, k => .loc k :: rebase r (k + 1)
  | v :: r, k => v :: rebase r k
noncomputable def lf : O → Bool
  | .lst _ => true
  | .dic _ => true
  | .dct _ => false
  | .lsp _ => false
  | .ins _ _ => false
noncomputable def isLive (S : Sto) (n : Nat) : Bool := match S[n]? with
  | some (some o) => lf o
  | _ => false
noncomputable def lfC : Option O → Bool
  | some o => lf o
  | none => true
noncomputable def noTup : Val → Bool
  | .tup _ => false
  | _ => true
noncomputable def puts (S : Sto) : List Nat → Sto → Sto
  | [], _ => S
  | n :: B, S' => puts (S.set n (S'.headD none)) B S'.tail
noncomputable def back (S : Sto) (B : List Nat) (v : Val) (S' : Sto) : R Val := match v with
  | .d x => .ok (.d x) (puts S B S')
  | .er x => .ok (.er x) (puts S B S')
  | .loc k => match B[k]? with
    | some n => .ok (.loc n) (puts S B S')
    | none => match S'[k]? with
      | some (some o) => if lf o = true then .ok (.loc S.length) (puts S B S' ++ [some o]) else .bad
      | _ => .bad
  | .scr _ => .bad
  | .tup _ => .bad
noncomputable def callM (n : Nat) (F : Fn) (vs : List Val) (S : Sto) : R Val :=
  if vs.length = n ∧ (lent vs).Nodup ∧ (lent vs).all (isLive S) = true ∧ vs.all noTup = true then
    match F (rebase vs 0) ((lent vs).map fun n => S.getD n none) with
    | .ok v S' => if (S'.take (lent vs).length).all lfC = true then back S (lent vs) v S' else .bad
    | .exc x S' => if (S'.take (lent vs).length).all lfC = true then .exc x (puts S (lent vs) S') else .bad
    | .bad => .bad
  else .bad
noncomputable def eCall (n : Nat) (F : Fn) (f : La) : Ex := fun ρ S => (f ρ S).bind fun vs S1 => callM n F vs S1
theorem puts_length : ∀ (B : List Nat) (S S' : Sto), (puts S B S').length = S.length
  | [], _, _ => rfl
  | n :: B, S, S' => by unfold puts; rw [puts_length B]; simp
theorem puts_out : ∀ (B : List Nat) (S S' : Sto) {n : Nat}, n ∉ B → (puts S B S')[n]? = S[n]?
  | [], _, _, _, _ => rfl
  | m :: B, S, S', n, h => by
    unfold puts
    rw [puts_out B _ _ fun z => h (List.mem_cons_of_mem _ z), List.getElem?_set_ne fun z => h (by rw [z]; exact List.mem_cons_self)]
theorem puts_in : ∀ (B : List Nat) (S S' : Sto) {i n : Nat}, B.Nodup → B[i]? = some n → n < S.length → (puts S B S')[n]? = some ((S'[i]?).join)
  | [], _, _, i, n, _, e, _ => by simp at e
  | m :: B, S, S', 0, n, nd, e, hl => by
    have e' : m = n := by simpa using e
    subst e'
    have hm : m ∉ B := (List.nodup_cons.mp nd).1
    unfold puts
    rw [puts_out B _ _ hm, List.getElem?_set_self hl]
    cases S' with
    | nil => rfl
    | cons a r => simp
  | m :: B, S, S', i + 1, n, nd, e, hl => by
    unfold puts
    rw [puts_in B _ S'.tail (i := i) (List.nodup_cons.mp nd).2 (by simpa using e) (by simpa using hl)]
    cases S' with
    | nil => simp
    | cons a r => simp
section
variable {c : Cor Ω} {S : Sto} {H : Hp}
noncomputable def sub (c : Cor Ω) (B : List Nat) : Cor Ω := ⟨B.map fun n => c.m.getD n 0, c.A⟩
theorem getD_of {α : Type} {l : List α} {n : Nat} {a d : α} (h : l[n]? = some a) : l.getD n d = a := by rw [List.getD_eq_getElem?_getD, h]; rfl
structure Lend (c : Cor Ω) (S : Sto) (B : List Nat) : Prop where
  nd : B.Nodup
  lv : ∀ n ∈ B, ∃ o a, S[n]? = some (some o) ∧ c.m[n]? = some a ∧ lf o = true
theorem ORep.leaf {c c' : Cor Ω} {H : Hp} {a : Addr} {o : O} (h : ORep c H a o) (hl : lf o = true) (hA : c'.A = c.A) : ORep c' H a o := by
  cases o with
  | lst ds => obtain ⟨vs, q1, q2, q3⟩ := h; exact ⟨vs, q1, q2, by rw [hA]; exact q3⟩
  | dic ds => obtain ⟨vs, q1, q2, q3⟩ := h; exact ⟨vs, q1, q2, by rw [hA]; exact q3⟩
  | dct _ => cases hl
  | lsp _ => cases hl
  | ins _ _ => cases hl
theorem Lend.mk' (r : Rel c S H) {B : List Nat} (nd : B.Nodup) (h : B.all (isLive S) = true) : Lend c S B := ⟨nd, fun n hn => by
  have h1 := List.all_eq_true.mp h n hn
  unfold isLive at h1
  split at h1
  · rename_i o ho
    have hl : n < c.m.length := by rw [r.len]; exact (List.getElem?_eq_some_iff.mp ho).1
    exact ⟨o, c.m[n], ho, List.getElem?_eq_getElem hl, h1⟩
  · cases h1⟩
variable {B : List Nat}
theorem Lend.at (L : Lend c S B) {i : Nat} {a : Addr} (h : (sub c B).m[i]? = some a) : ∃ n, B[i]? = some n ∧ c.m[n]? = some a ∧ ∃ o, S[n]? = some (some o) ∧ lf o = true := by
  unfold sub at h
  rw [List.getElem?_map] at h
  obtain ⟨n, h1, h2⟩ := Option.map_eq_some_iff.mp h
  obtain ⟨o, b, h3, h4, h5⟩ := L.lv n (List.mem_of_getElem? h1)
  rw [getD_of h4] at h2
  subst h2
  exact ⟨n, h1, h4, o, h3, h5⟩
theorem Lend.to (L : Lend c S B) {i n : Nat} {a : Addr} (h : B[i]? = some n) (h' : c.m[n]? = some a) : (sub c B).m[i]? = some a := by
  unfold sub
  rw [List.getElem?_map, h]
  exact congrArg some (getD_of h')
theorem Lend.obj (L : Lend c S B) {i n : Nat} (h : B[i]? = some n) : (B.map fun n => S.getD n none)[i]? = S[n]? := by
  obtain ⟨o, _, h3, _, _⟩ := L.lv n (List.mem_of_getElem? h)
  rw [List.getElem?_map, h, h3]
  exact congrArg some (getD_of h3)
theorem Lend.live (L : Lend c S B) {a : Addr} (h : live (sub c B) (B.map fun n => S.getD n none) a) : ∃ n ∈ B, c.m[n]? = some a ∧ DL.live c S a := by
  obtain ⟨i, o, h1, h2⟩ := h
  obtain ⟨n, h3, h4, o', h5, _⟩ := L.at h1
  exact ⟨n, List.mem_of_getElem? h3, h4, n, o', h4, h5⟩
theorem nodup_ix' {α : Type} {N : List α} (hN : N.Nodup) {i j : Nat} {x : α} (a : N[i]? = some x) (b : N[j]? = some x) : i = j := by
  obtain ⟨h1, e1⟩ := List.getElem?_eq_some_iff.mp a
  obtain ⟨h2, e2⟩ := List.getElem?_eq_some_iff.mp b
  exact (List.getElem_inj hN).mp (e1.trans e2.symm)
theorem Lend.rel (r : Rel c S H) (L : Lend c S B) : Rel (sub c B) (B.map fun n => S.getD n none) H := by
  refine ⟨by simp [sub], fun i j a o o' h1 h2 h3 h4 => ?_, fun i a o h1 h2 => ?_, r.tr, r.nt⟩
  · obtain ⟨n, e1, e2, p, e3, _⟩ := L.at h1
    obtain ⟨m, f1, f2, p', f3, _⟩ := L.at h2
    have := r.inj n m a p p' e2 f2 e3 f3
    subst this
    exact nodup_ix' L.nd e1 f1
  · obtain ⟨n, e1, e2, p, e3, e4⟩ := L.at h1
    rw [L.obj e1] at h2
    obtain ⟨h3, h4⟩ := r.ob n a o e2 h2
    rw [e3] at h2; cases h2
    exact ⟨h3, h4.leaf e4 rfl⟩
theorem noTup_tail {v : Val} {r : List Val} (h : (v :: r).all noTup = true) : r.all noTup = true := by
  rw [List.all_cons, Bool.and_eq_true] at h; exact h.2
theorem Lend.args (L : Lend c S B) : ∀ {vs : List Val} {us : List V} (k : Nat), VRepL c H vs us → vs.all noTup = true → (∀ i n, (lent vs)[i]? = some n → B[k + i]? = some n) → VRepL (sub c B) H (rebase vs k) us
  | _, _, _, .nil, _, _ => .nil
  | _, _, k, .cons (x := .d x) h t, hn, hB => .cons h (L.args k t (noTup_tail hn) hB)
  | _, _, k, .cons (x := .scr x) h t, hn, hB => .cons h (L.args k t (noTup_tail hn) hB)
  | _, _, k, .cons (x := .er x) h t, hn, hB => .cons h (L.args k t (noTup_tail hn) hB)
  | _, _, k, .cons (x := .tup x) h t, hn, hB => by simp [noTup] at hn
  | _, _, k, .cons (x := .loc n) ⟨a, h1, h2⟩ t, hn, hB => by
    refine .cons ⟨a, L.to (n := n) (by simpa using hB 0 n rfl) h1, h2⟩ (L.args (k + 1) t (by simpa [noTup] using hn) fun i m e => ?_)
    have := hB (i + 1) m (by simpa [lent] using e)
    rw [show k + 1 + i = k + (i + 1) by omega]
    exact this
theorem Lend.nx (r : Rel c S H) (L : Lend c S B) {c1 : Cor Ω} {S1 : Sto} {H1 : Hp} (x : Nx (sub c B) (B.map fun n => S.getD n none) H c1 S1 H1) (hlf : (S1.take B.length).all lfC = true) : Nx c S H ⟨c.m, c1.A⟩ (puts S B S1) H1 := by
  have hlf' : ∀ i n o, B[i]? = some n → S1[i]? = some (some o) → lf o = true := fun i n o h1 h2 => by
    have hi := (List.getElem?_eq_some_iff.mp h1).1
    have := List.all_eq_true.mp hlf (some o) (List.mem_of_getElem? (i := i) (by rw [List.getElem?_take, if_pos hi]; exact h2))
    exact this
  have rs := L.rel r
  have nl : ∀ a, ¬ DL.live c S a → ¬ DL.live (sub c B) (B.map fun n => S.getD n none) a := fun a h z => by
    obtain ⟨_, _, _, q⟩ := L.live z
    exact h q
  have hS : ∀ n o, (puts S B S1)[n]? = some (some o) → (n ∈ B ∧ ∃ i, B[i]? = some n ∧ S1[i]? = some (some o)) ∨ (n ∉ B ∧ S[n]? = some (some o)) := fun n o h => by
    by_cases hn : n ∈ B
    · obtain ⟨i, hi⟩ := List.getElem?_of_mem hn
      obtain ⟨p, a, h3, h4, _⟩ := L.lv n hn
      rw [puts_in B S S1 L.nd hi (List.getElem?_eq_some_iff.mp h3).1] at h
      refine .inl ⟨hn, i, hi, ?_⟩
      cases q : S1[i]? with
      | none => rw [q] at h; cases h
      | some z => rw [q] at h; exact h
    · rw [puts_out B S S1 hn] at h
      exact .inr ⟨hn, h⟩
  have hm : ∀ i n a, B[i]? = some n → c.m[n]? = some a → c1.m[i]? = some a := fun i n a h1 h2 => prefix_get x.pre (L.to h1 h2)
  have notB : ∀ n a o, n ∉ B → c.m[n]? = some a → S[n]? = some (some o) → ¬ DL.live (sub c B) (B.map fun n => S.getD n none) a := fun n a o h1 h2 h3 z => by
    obtain ⟨m, g1, g2, _⟩ := L.live z
    obtain ⟨p, b, g3, g4, _⟩ := L.lv m g1
    have := r.inj n m a o p h2 g2 h3 g3
    subst this
    exact h1 g1
  refine ⟨List.prefix_refl _, fun a h => x.grow a h, fun a h l => x.lock a h (nl a l), ⟨?_, ?_, ?_, x.rel.tr, x.rel.nt⟩, fun a o h l => x.fr a o h (nl a l), ?_⟩
  · rw [puts_length]; exact r.len
  · intro n n' a o o' h1 h2 h3 h4
    rcases hS n o h3 with ⟨g1, i, g2, g3⟩ | ⟨g1, g2⟩ <;> rcases hS n' o' h4 with ⟨f1, j, f2, f3⟩ | ⟨f1, f2⟩
    · have := x.rel.inj i j a o o' (hm i n a g2 h1) (hm j n' a f2 h2) g3 f3
      subst this
      rw [g2] at f2; cases f2; rfl
    · obtain ⟨p, b, q1, q2, _⟩ := L.lv n g1
      exact r.inj n n' a p o' h1 h2 q1 f2
    · obtain ⟨p, b, q1, q2, _⟩ := L.lv n' f1
      exact r.inj n n' a o p h1 h2 g2 q1
    · exact r.inj n n' a o o' h1 h2 g2 f2
  · intro n a o h1 h3
    rcases hS n o h3 with ⟨g1, i, g2, g3⟩ | ⟨g1, g2⟩
    · obtain ⟨q1, q2⟩ := x.rel.ob i a o (hm i n a g2 h1) g3
      exact ⟨q1, q2.leaf (hlf' i n o g2 g3) rfl⟩
    · obtain ⟨q1, q2⟩ := r.ob n a o h1 g2
      have nlv := notB n a o g1 h1 g2
      refine ⟨x.lock a q1 nlv, ?_⟩
      have kk : Kp (sub c B).A H c1.A H1 := Nx.kp rs x
      exact ORep.keep' (c := c) (c' := ⟨c.m, c1.A⟩) kk (List.prefix_refl _) (fun o e => x.fr a _ e nlv) q2
  · rintro a ⟨n, o, h1, h3⟩
    rcases hS n o h3 with ⟨g1, i, g2, g3⟩ | ⟨g1, g2⟩
    · rcases x.lv a ⟨i, o, hm i n a g2 h1, g3⟩ with z | z
      · obtain ⟨_, _, _, q⟩ := L.live z; exact .inl q
      · exact .inr z
    · exact .inl ⟨n, o, h1, g2⟩
theorem Lend.nx2 (r : Rel c S H) (L : Lend c S B) {c1 : Cor Ω} {S1 : Sto} {H1 : Hp} (x : Nx (sub c B) (B.map fun n => S.getD n none) H c1 S1 H1) {k : Nat} {o : O} {a : Addr} (hk : B[k]? = none) (ho : S1[k]? = some (some o)) (ha : c1.m[k]? = some a) (hlf : (S1.take B.length).all lfC = true) (hlo : lf o = true) :
    Nx c S H ⟨c.m ++ [a], c1.A⟩ (puts S B S1 ++ [some o]) H1 := by
  have y := L.nx r x hlf
  have la : DL.live c1 S1 a := ⟨k, o, ha, ho⟩
  have hlen : c.m.length = (puts S B S1).length := y.rel.len
  have hm : ∀ i n a, B[i]? = some n → c.m[n]? = some a → c1.m[i]? = some a := fun i n a h1 h2 => prefix_get x.pre (L.to h1 h2)
  -- no old place that lives has this address
  have no : ∀ n o', c.m[n]? = some a → (puts S B S1)[n]? = some (some o') → False := fun n o' h1 h3 => by
    by_cases hn : n ∈ B
    · obtain ⟨i, hi⟩ := List.getElem?_of_mem hn
      obtain ⟨p, b, h4, h5, _⟩ := L.lv n hn
      rw [puts_in B S S1 L.nd hi (List.getElem?_eq_some_iff.mp h4).1] at h3
      have h6 : S1[i]? = some (some o') := by
        cases q : S1[i]? with
        | none => rw [q] at h3; cases h3
        | some z => rw [q] at h3; exact h3
      have := x.rel.inj i k a o' o (hm i n a hi h1) ha h6 ho
      subst this
      rw [hi] at hk; cases hk
    · rw [puts_out B S S1 hn] at h3
      obtain ⟨q1, q2⟩ := r.ob n a o' h1 h3
      obtain ⟨u, hu⟩ := r.tr a q1
      rcases x.lv a la with z | z
      · obtain ⟨m, g1, g2, _⟩ := L.live z
        obtain ⟨p, b, g3, g4, _⟩ := L.lv m g1
        have := r.inj n m a o' p h1 g2 h3 g3
        subst this
        exact hn g1
      · rw [hu] at z; cases z
  have sp : ∀ {α : Type} (l : List α) (z : α) (n : Nat) (b : α), (l ++ [z])[n]? = some b → (l[n]? = some b ∧ n < l.length) ∨ (n = l.length ∧ z = b) := fun l z n b h => by
    rcases Nat.lt_trichotomy n l.length with q | q | q
    · rw [List.getElem?_append_left q] at h; exact .inl ⟨h, q⟩
    · subst q; simp at h; exact .inr ⟨rfl, h⟩
    · rw [List.getElem?_eq_none (by simp; omega)] at h; cases h
  obtain ⟨q1, q2⟩ := x.rel.ob k a o ha ho
  refine ⟨⟨[a], rfl⟩, y.grow, y.lock, ⟨by simp [hlen], ?_, ?_, y.rel.tr, y.rel.nt⟩, y.fr, ?_⟩
  · intro n n' b p p' h1 h2 h3 h4
    rcases sp _ _ _ _ h1 with ⟨g1, l1⟩ | ⟨g1, g1'⟩ <;> rcases sp _ _ _ _ h2 with ⟨g2, l2⟩ | ⟨g2, g2'⟩
    · rcases sp _ _ _ _ h3 with ⟨f1, _⟩ | ⟨f1, _⟩ <;> rcases sp _ _ _ _ h4 with ⟨f2, _⟩ | ⟨f2, _⟩
      · exact y.rel.inj n n' b p p' g1 g2 f1 f2
      · omega
      · omega
      · omega
    · subst g2'
      rcases sp _ _ _ _ h3 with ⟨f1, _⟩ | ⟨f1, _⟩
      · exact (no n p g1 f1).elim
      · omega
    · subst g1'
      rcases sp _ _ _ _ h4 with ⟨f1, _⟩ | ⟨f1, _⟩
      · exact (no n' p' g2 f1).elim
      · omega
    · omega
  · intro n b p h1 h3
    rcases sp _ _ _ _ h1 with ⟨g1, l1⟩ | ⟨g1, g1'⟩
    · rcases sp _ _ _ _ h3 with ⟨f1, _⟩ | ⟨f1, _⟩
      · obtain ⟨z1, z2⟩ := y.rel.ob n b p g1 f1
        exact ⟨z1, ORep.keep' (c := ⟨c.m, c1.A⟩) (c' := ⟨c.m ++ [a], c1.A⟩) ⟨fun _ _ q => q, fun _ _ q _ => q, fun _ _ _ z => z⟩ (List.prefix_append _ _) (fun _ q => q) z2⟩
      · omega
    · subst g1'
      rcases sp _ _ _ _ h3 with ⟨f1, l⟩ | ⟨f1, f2⟩
      · omega
      · cases f2
        exact ⟨q1, q2.leaf hlo rfl⟩
  · rintro b ⟨n, p, h1, h3⟩
    rcases sp _ _ _ _ h1 with ⟨g1, l1⟩ | ⟨g1, g1'⟩
    · rcases sp _ _ _ _ h3 with ⟨f1, _⟩ | ⟨f1, _⟩
      · exact y.lv b ⟨n, p, g1, f1⟩
      · omega
    · subst g1'
      rcases x.lv a la with z | z
      · obtain ⟨_, _, _, q⟩ := L.live z; exact .inl q
      · exact .inr z
end
section
variable {X : Cx} {W : WX}
theorem callM_r {n : Nat} {F : Fn} {c : Cor X.K} {S : Sto} {σ : L2.St} {H : Hp} {vs : List Val} {us : List V} {Q : VK} (hr : Rel c S H) (hv : VRepL c H vs us) (h : Aft X.mg W c S σ H (callM n F vs S) fun v c' _ H' => ∀ u, VRep c' H' v u → Q u H') :
    spG X.K X.mg n F us H Q (WE W σ) := by
  unfold callM at h
  split at h
  · rename_i hc
    obtain ⟨hn, nd, hl, hnt⟩ := hc
    have L : Lend c S (lent vs) := Lend.mk' hr nd hl
    have hlen : (rebase vs 0).length = n := by
      rw [← hn]
      have : ∀ (vs : List Val) (k : Nat), (rebase vs k).length = vs.length := by
        intro vs
        induction vs with
        | nil => intro k; rfl
        | cons v r ih => intro k; cases v <;> simp [rebase, ih]
      exact this vs 0
    refine ⟨sub c (lent vs), (lent vs).map fun n => S.getD n none, rebase vs 0, L.rel hr, L.args 0 hv hnt (fun i n e => by rw [Nat.zero_add]; exact e), hlen, ?_⟩
    revert h
    cases F (rebase vs 0) ((lent vs).map fun n => S.getD n none) with
    | ok v S' =>
      intro h c' H' u x hu
      simp only at h
      split at h
      case isFalse => exact h.elim
      rename_i hlf
      cases v with
      | d y => exact h _ H' (L.nx hr x hlf) u hu
      | er y => exact h _ H' (L.nx hr x hlf) u hu
      | scr ds => exact h.elim
      | tup ps => exact h.elim
      | loc k =>
        obtain ⟨a, h1, h2⟩ := hu
        simp only [back] at h
        cases e : (lent vs)[k]? with
        | some m =>
          simp only [e] at h
          obtain ⟨o, b, q1, q2, _⟩ := L.lv m (List.mem_of_getElem? e)
          have q3 := prefix_get x.pre (L.to e q2)
          rw [h1] at q3; cases q3
          exact h _ H' (L.nx hr x hlf) u ⟨a, q2, h2⟩
        | none =>
          simp only [e] at h
          cases e2 : S'[k]? with
          | none => simp only [e2] at h; exact h.elim
          | some z =>
            cases z with
            | none => simp only [e2] at h; exact h.elim
            | some o =>
              simp only [e2] at h
              split at h
              case isFalse => exact h.elim
              rename_i hlo
              exact h _ H' (L.nx2 hr x e e2 h1 hlf hlo) u ⟨a, by rw [← hr.len]; simp, h2⟩
    | exc y S' =>
      intro h c' H' cls d x z
      simp only at h
      split at h
      case isFalse => exact h.elim
      rename_i hlf
      exact h _ H' cls d (L.nx hr x hlf) z
    | bad => exact fun h => h
  · exact h.elim
theorem se_call {k n : Nat} {f : Addr} {fd : FuncData} {ps : List Str} {F : Fn} {x : Str} {e : Expr} {es : List Expr} {fa : La} {p pos : Pos} (tk : Takes X W) (G : FnOk X.prog X.w X.K X.mg X.base (L2.CX X.prog X.w) k f fd ps (spG X.K X.mg n F)) (hr : Room k X.A) (hg : Gl X x) (hm : X.mg x = some (.ref f)) (hk : PySem.W.keepIn X.K (.ref f) = true) (hb : Binds X.K fd ps [])
    (ha : SA X W (e :: es) fa) (hdb : (x == ("__debug__" : Str)) = false := by decide) (he : starEach (e :: es) X.env = (false, eval e X.env) :: starEach es X.env := by rfl) (hpl : (backTo pos (starEach es X.env)).any (·.1) = false := by rfl) :
    SE X W (.Call (.Name x p) (e :: es) [] pos) (eCall n F fa) :=
  PE.imp (pe_callS (E := WE W) G hr hg hm hk hb (fun σ => passAt tk σ) ha hdb he hpl) fun σ H Q ⟨c, ρ, S, hr, he, q⟩ =>
    ⟨c, ρ, S, hr, he, (Aft.bind hr q).mono fun vs c1 S1 H1 x1 h1 us hus => callM_r x1.rel hus h1⟩
end
end DL
namespace DL
open PySem PySem.Spec PyProof.Rows L2
noncomputable def R.fl (r : R Flow) (k : Ev → Sto → R Flow) : R Flow := match r with
  | .ok (.nx ρ) S => k ρ S
  | r => r
noncomputable def sNil : Blk := fun ρ S => .ok (.nx ρ) S
noncomputable def sSeq (g h : Blk) : Blk := fun ρ S => (g ρ S).fl h
noncomputable def sExpr (f : Ex) : Blk := fun ρ S => (f ρ S).st ρ fun _ S1 => .ok (.nx ρ) S1
noncomputable def sRet (f : Ex) : Blk := fun ρ S => (f ρ S).st ρ fun v S1 => .ok (.rt v) S1
noncomputable def sIf (t : Te) (g h : Blk) : Blk := fun ρ S => (t ρ S).st ρ fun b S1 => match b with
  | true => g ρ S1
  | false => h ρ S1
noncomputable def sSet (i : Nat) (f : Ex) : Blk := fun ρ S => (f ρ S).st ρ fun v S1 => .ok (.nx (ρ.set i (some v))) S1
noncomputable def sRaise (x : XV) : Blk := fun ρ S => .ok (.ex x ρ) S
section
variable {X : Cx} {W : WX} {pos : Pos}
theorem ss_nil : SSs X W [] sNil := PSs.imp pss_nil fun D σ H ⟨c, ρ, S, hr, he, q⟩ => q c σ H (Nx.refl hr) he
theorem ss_cons {st : Stmt} {rest : List Stmt} {g h : Blk} (h1 : SS X W st g) (h2 : SSs X W rest h) : SSs X W (st :: rest) (sSeq g h) := PSs.imp (pss_cons h1 h2) fun D σ H ⟨c, ρ, S, hr, he, q⟩ => by
  refine ⟨c, ρ, S, hr, he, ?_⟩
  unfold sSeq at q
  revert q
  cases g ρ S with
  | ok fl S' =>
    cases fl with
    | nx ρ' => exact fun q c' σ' H' x e => ⟨c', ρ', S', x.rel, e, AftS.later hr x q⟩
    | bk ρ => exact fun q => q
    | ct ρ => exact fun q => q
    | rt v => exact fun q => q
    | ex z ρ => exact fun q => q
  | exc x S' => exact fun q => q
  | bad => exact fun q => q
theorem ss_one {st : Stmt} {g : Blk} (h1 : SS X W st g) : SSs X W [st] g := pss_one h1
theorem ss_expr {e : Expr} {f : Ex} (h : SE X W e f) (hs : swapsWith e none pos.line X.env = pure false := by rfl) : SS X W (.Expr e pos) (sExpr f) := PS.imp (ps_expr h hs) fun D σ H ⟨c, ρ, S, hr, he, q⟩ =>
  ⟨c, ρ, S, hr, he, (Aft.st hr he q).mono fun v c1 S1 H1 x1 h1 u hu => h1 c1 σ H1 (Nx.refl x1.rel) (he.keep hr x1)⟩
theorem ss_ret {e : Expr} {f : Ex} (h : SE X W e f) : SS X W (.Return (some e) pos) (sRet f) := PS.imp (ps_ret h) fun D σ H ⟨c, ρ, S, hr, he, q⟩ =>
  ⟨c, ρ, S, hr, he, (Aft.st hr he q).mono fun v c1 S1 H1 x1 h1 u hu => h1 c1 H1 u (Nx.refl x1.rel) hu⟩
theorem ss_if {e : Expr} {a b : List Stmt} {t : Te} {g h : Blk} (ht : ST X W e t) (hg : SSs X W a g) (hh : SSs X W b h) : SS X W (.If e a b pos) (sIf t g h) := PS.imp (ps_if ht hg hh) fun D σ H ⟨c, ρ, S, hr, he, q⟩ => by
  refine ⟨c, ρ, S, hr, he, (Aft.st hr he q).mono fun v c1 S1 H1 x1 h1 => ?_⟩
  cases v with
  | true => exact iteT ⟨c1, ρ, S1, x1.rel, he.keep hr x1, h1⟩
  | false => exact iteF ⟨c1, ρ, S1, x1.rel, he.keep hr x1, h1⟩
theorem ss_set {i : Nat} {x : Str} {e : Expr} {f : Ex} {pos' : Pos} (hN : X.N.Nodup) (hi : X.N[i]? = some x) (hx : Loc X.env.scope x) (h : SE X W e f) (hs : swapsWith e (some (.Name x pos')) pos.line X.env = pure false := by rfl)
    (hf : X.fn x = true ∨ X.env.scope.names.lookup x = some .local := by first | exact .inl rfl | exact .inr rfl | assumption) : SS X W (.Assign [.Name x pos'] e pos) (sSet i f) :=
  PS.imp (ps_set hN hi hx h hs hf) fun D σ H ⟨c, ρ, S, hr, he, q⟩ =>
    ⟨c, ρ, S, hr, he, (Aft.st hr he q).mono fun v c1 S1 H1 x1 h1 u hu => h1 c1 _ H1 (Nx.refl x1.rel) ((he.keep hr x1).set hu i)⟩
end
noncomputable abbrev Tg := Val → Ev → Sto → R Ev
noncomputable abbrev Tgs := List D → Ev → Sto → R Ev
noncomputable def R.noX {α : Type} (r : R α) : R α := match r with
  | .exc _ _ => .bad
  | r => r
noncomputable def AftG (c : Cor Ω) (S : Sto) (H : Hp) (r : R Ev) (Q : L2.St → Hp → Prop) : Prop := match r with
  | .ok ρ S' => ∀ c' σ' H', Nx c S H c' S' H' → RepE c' H' ρ σ' → Q σ' H'
  | _ => False
noncomputable def tG (Ω : PySem.W.Frag) (g : Tg) : TG := fun u σ H Q => ∃ (c : Cor Ω) (ρ : Ev) (S : Sto) (v : Val), Rel c S H ∧ RepE c H ρ σ ∧ VRep c H v u ∧ AftG c S H (g v ρ S) Q
noncomputable def tGs (Ω : PySem.W.Frag) (g : Tgs) : TGs := fun us σ H Q => ∃ (c : Cor Ω) (ρ : Ev) (S : Sto) (ds : List D), Rel c S H ∧ RepE c H ρ σ ∧ RepL c.A H ds us ∧ AftG c S H (g ds ρ S) Q
noncomputable abbrev SG (X : Cx) (e : Expr) (g : Tg) : Prop := PG X e (tG X.K g)
noncomputable abbrev SGs (X : Cx) (es : List Expr) (g : Tgs) : Prop := PGs X es (tGs X.K g)
theorem PG.imp {X : Cx} {e : Expr} {t t' : TG} (h : PG X e t) (hi : ∀ v σ H Q, t' v σ H Q → t v σ H Q) : PG X e t' := ⟨by
  have := h.run
  intros
  apply this <;> first | assumption | (apply hi; assumption)⟩
theorem PGs.imp {X : Cx} {e : List Expr} {t t' : TGs} (h : PGs X e t) (hi : ∀ v σ H Q, t' v σ H Q → t v σ H Q) : PGs X e t' := ⟨by
  have := h.run
  intros
  apply this <;> first | assumption | (apply hi; assumption)⟩
noncomputable def gNm (i : Nat) : Tg := fun v ρ S => .ok (ρ.set i (some v)) S
noncomputable def gsNil : Tgs := fun ds ρ S => match ds with
  | [] => .ok ρ S
  | _ => .bad
noncomputable def gsCons (g : Tg) (gs : Tgs) : Tgs := fun ds ρ S => match ds with
  | d :: r => (g (.d d) ρ S).bind fun ρ1 S1 => gs r ρ1 S1
  | [] => .bad
noncomputable def gTp (n : Nat) (gs : Tgs) : Tg := fun v ρ S => match v with
  | .d (.tuple ds) => if ds.length = n then gs ds ρ S else .bad
  | _ => .bad
section
variable {X : Cx} {W : WX} {pos : Pos}
theorem AftG.later {c c1 : Cor Ω} {S S1 : Sto} {H H1 : Hp} (hr : Rel c S H) (x : Nx c S H c1 S1 H1) {r : R Ev} {Q : L2.St → Hp → Prop} (h : AftG c S H r Q) : AftG c1 S1 H1 r Q := by
  cases r with
  | ok a S' => exact fun c' σ' H' y e => h c' σ' H' (x.trans hr y) e
  | exc x S' => exact h
  | bad => exact h
theorem sg_name {i : Nat} {x : Str} (hN : X.N.Nodup) (hi : X.N[i]? = some x) (hx : Loc X.env.scope x) (hf : X.fn x = true ∨ X.env.scope.names.lookup x = some .local := by first | exact .inl rfl | exact .inr rfl | assumption) : SG X (.Name x pos) (gNm i) :=
  PG.imp (pg_name hN hi hx hf) fun u σ H Q ⟨c, ρ, S, v, hr, he, hv, q⟩ => q c _ H (Nx.refl hr) (he.set hv i)
theorem sgs_nil : SGs X [] gsNil := PGs.imp pgs_nil fun us σ H Q ⟨c, ρ, S, ds, hr, he, hv, q⟩ => by
  cases hv with
  | nil => exact ⟨rfl, q c σ H (Nx.refl hr) he⟩
  | cons _ _ => exact q.elim
theorem sgs_cons {e : Expr} {es : List Expr} {g : Tg} {gs : Tgs} (h1 : SG X e g) (h2 : SGs X es gs)
    (hs : (assignEach (e :: es) X.env).map (·.2) = assign e X.env :: (assignEach es X.env).map (·.2) := by rfl) : SGs X (e :: es) (gsCons g gs) := PGs.imp (pgs_cons h1 h2 hs) fun us σ H Q ⟨c, ρ, S, ds, hr, he, hv, q⟩ => by
  cases hv with
  | nil => exact q.elim
  | cons hd ht =>
    rename_i d ds v vs
    refine ⟨_, _, rfl, c, ρ, S, .d _, hr, he, hd, ?_⟩
    simp only [gsCons] at q
    revert q
    generalize g _ ρ S = r
    cases r with
    | ok ρ1 S1 => exact fun q c' σ' H' x e => ⟨c', ρ1, S1, _, x.rel, e, RepL.keep (x.kp hr) _ _ ht, AftG.later hr x q⟩
    | exc z S' => exact fun q => q
    | bad => exact fun q => q
theorem sg_tup {es : List Expr} {k : Nat} {n : Nat} {gs : Tgs} (h : PG X (.Tuple es k pos) (gTup X.K n (tGs X.K gs))) : SG X (.Tuple es k pos) (gTp n gs) := PG.imp h fun u σ H Q ⟨c, ρ, S, v, hr, he, hv, q⟩ => by
  unfold gTp at q
  split at q
  · split at q
    · rename_i ds hl
      cases hv with
      | tup h1 h2 h3 => exact ⟨_, _, rfl, SqT.of h1, by rw [← h3.length]; exact hl, c, ρ, S, ds, hr, he, h3, q⟩
    · exact q.elim
  · exact q.elim
noncomputable def sAsg (f : Ex) (g : Tg) : Blk := fun ρ S => (f ρ S).st ρ fun v S1 => ((g v ρ S1).noX).st ρ fun ρ1 S2 => .ok (.nx ρ1) S2
theorem aftG_of {mg : Str → Option Value} {c : Cor Ω} {S : Sto} {H : Hp} {ρ : Ev} {r : R Ev} {D : Ends} (h : AftS mg W c S H ((r.noX).st ρ fun ρ1 S2 => .ok (.nx ρ1) S2) D) : AftG c S H r D.nx := by
  cases r with
  | ok a S' => exact h
  | exc x S' => exact h.elim
  | bad => exact h.elim
theorem ss_asg {tg e : Expr} {f : Ex} {g : Tg} (h : PS X (.Assign [tg] e pos) (tAsg (tE X.K X.mg W f) (tG X.K g))) : SS X W (.Assign [tg] e pos) (sAsg f g) := PS.imp h fun D σ H ⟨c, ρ, S, hr, he, q⟩ =>
  ⟨c, ρ, S, hr, he, (Aft.st hr he q).mono fun v c1 S1 H1 x1 h1 u hu => ⟨c1, ρ, S1, v, x1.rel, he.keep hr x1, hu, aftG_of h1⟩⟩
end
theorem Nx.make {c : Cor Ω} {S : Sto} {H : Hp} (r : Rel c S H) {p : Addr} {ho : HO} {o : O} (hp : H p = none) (nt : ∀ vs, ho ≠ .tup vs) (hn : ORep (⟨c.m ++ [p], fun a => c.A a ∨ a = p⟩ : Cor Ω) (upd H p ho) p o) :
    Nx c S H ⟨c.m ++ [p], fun a => c.A a ∨ a = p⟩ (S ++ [some o]) (upd H p ho) := by
  have na : ∀ a, c.A a → a ≠ p := fun a h e => by
    obtain ⟨q, z⟩ := r.tr a h
    rw [e, hp] at z; cases z
  have k : Kp c.A H (fun a => c.A a ∨ a = p) (upd H p ho) := ⟨fun a vs h => by rw [upd_ne (ne_of_none h hp)]; exact h, fun a q h _ => by rw [upd_ne (ne_of_none h hp)]; exact h, fun a q h z => by
    rcases z with z | z
    · exact z
    · exact absurd z (ne_of_none h hp)⟩
  have sp : ∀ {α : Type} (l : List α) (z : α) (n : Nat) (b : α), (l ++ [z])[n]? = some b → (l[n]? = some b ∧ n < l.length) ∨ (n = l.length ∧ z = b) := fun l z n b h => by
    rcases Nat.lt_trichotomy n l.length with q | q | q
    · rw [List.getElem?_append_left q] at h; exact .inl ⟨h, q⟩
    · subst q; simp at h; exact .inr ⟨rfl, h⟩
    · rw [List.getElem?_eq_none (by simp; omega)] at h; cases h
  have hlen := r.len
  refine ⟨⟨[p], rfl⟩, fun a h => ?_, fun a h _ => .inl h, ⟨by simp [hlen], ?_, ?_, ?_, ?_⟩, fun a q h _ => by rw [upd_ne (ne_of_none h hp)]; exact h, ?_⟩
  · rcases h with h | h
    · exact .inl h
    · subst h; exact .inr hp
  · intro n n' b p p' h1 h2 h3 h4
    rcases sp _ _ _ _ h1 with ⟨g1, l1⟩ | ⟨g1, g1'⟩ <;> rcases sp _ _ _ _ h2 with ⟨g2, l2⟩ | ⟨g2, g2'⟩
    · rcases sp _ _ _ _ h3 with ⟨f1, _⟩ | ⟨f1, _⟩ <;> rcases sp _ _ _ _ h4 with ⟨f2, _⟩ | ⟨f2, _⟩
      · exact r.inj n n' b p p' g1 g2 f1 f2
      · omega
      · omega
      · omega
    · subst g2'
      rcases sp _ _ _ _ h3 with ⟨f1, _⟩ | ⟨f1, _⟩
      · exact absurd rfl (na _ (r.ob n _ p g1 f1).1)
      · omega
    · subst g1'
      rcases sp _ _ _ _ h4 with ⟨f1, _⟩ | ⟨f1, _⟩
      · exact absurd rfl (na _ (r.ob n' _ p' g2 f1).1)
      · omega
    · omega
  · intro n b q h1 h3
    rcases sp _ _ _ _ h1 with ⟨g1, l1⟩ | ⟨g1, g1'⟩
    · rcases sp _ _ _ _ h3 with ⟨f1, _⟩ | ⟨f1, _⟩
      · obtain ⟨z1, z2⟩ := r.ob n b q g1 f1
        refine ⟨.inl z1, ?_⟩
        exact ORep.keep' (c := c) (c' := ⟨c.m ++ [p], fun a => c.A a ∨ a = p⟩) k (List.prefix_append _ _) (fun o e => by rw [upd_ne (na b z1)]; exact e) z2
      · omega
    · subst g1'
      rcases sp _ _ _ _ h3 with ⟨f1, l⟩ | ⟨f1, f2⟩
      · omega
      · cases f2
        exact ⟨.inr rfl, hn⟩
  · intro a h
    rcases h with h | h
    · obtain ⟨q, z⟩ := r.tr a h
      exact ⟨q, by rw [upd_ne (na a h)]; exact z⟩
    · subst h; exact ⟨ho, upd_same⟩
  · intro a vs h z
    rcases z with z | z
    · rw [upd_ne (na a z)] at h
      exact r.nt a vs h z
    · subst z
      rw [upd_same] at h
      exact nt vs (Option.some.inj h)
  · rintro b ⟨n, q, h1, h3⟩
    rcases sp _ _ _ _ h1 with ⟨g1, l1⟩ | ⟨g1, g1'⟩
    · rcases sp _ _ _ _ h3 with ⟨f1, _⟩ | ⟨f1, _⟩
      · exact .inl ⟨n, q, g1, f1⟩
      · omega
    · subst g1'; exact .inr hp
theorem make_kp {c : Cor Ω} {S : Sto} {H : Hp} (r : Rel c S H) {p : Addr} {ho : HO} (hp : H p = none) : Kp c.A H (fun a => c.A a ∨ a = p) (upd H p ho) := ⟨fun a vs h => by rw [upd_ne (ne_of_none h hp)]; exact h, fun a q h _ => by rw [upd_ne (ne_of_none h hp)]; exact h, fun a q h z => by
    rcases z with z | z
    · exact z
    · exact absurd z (ne_of_none h hp)⟩
theorem Nx.write {c : Cor Ω} {S : Sto} {H : Hp} (r : Rel c S H) {n : Nat} {a : Addr} {ho : HO} {o o' : O} (ha : c.m[n]? = some a) (hs : S[n]? = some (some o)) (nt : ∀ vs, ho ≠ .tup vs) (hn : ORep c (upd H a ho) a o') :
    Nx c S H c (S.set n (some o')) (upd H a ho) := by
  have hA := (r.ob n a o ha hs).1
  have hl : n < S.length := (List.getElem?_eq_some_iff.mp hs).1
  have k : Kp c.A H c.A (upd H a ho) := ⟨fun b vs h => by rw [upd_ne (show b ≠ a from fun z => r.nt b vs h (by rw [z]; exact hA))]; exact h, fun b q h z => by rw [upd_ne (show b ≠ a from fun y => z (by rw [y]; exact hA))]; exact h, fun _ _ _ z => z⟩
  have st : ∀ m q, (S.set n (some o'))[m]? = some (some q) → (m = n ∧ q = o') ∨ (m ≠ n ∧ S[m]? = some (some q)) := fun m q h => by
    by_cases e : n = m
    · subst e; rw [List.getElem?_set_self hl] at h; exact .inl ⟨rfl, (Option.some.inj (Option.some.inj h)).symm⟩
    · rw [List.getElem?_set_ne e] at h; exact .inr ⟨fun z => e z.symm, h⟩
  have lv : ∀ m q, (S.set n (some o'))[m]? = some (some q) → ∃ q', S[m]? = some (some q') := fun m q h => by
    rcases st m q h with ⟨rfl, _⟩ | ⟨_, h⟩
    · exact ⟨o, hs⟩
    · exact ⟨q, h⟩
  refine ⟨List.prefix_refl _, fun _ h => .inl h, fun _ h _ => h, ⟨by simpa using r.len, ?_, ?_, ?_, ?_⟩, fun b q h z => ?_, ?_⟩
  · intro m m' b q q' h1 h2 h3 h4
    obtain ⟨p, h5⟩ := lv m q h3
    obtain ⟨p', h6⟩ := lv m' q' h4
    exact r.inj m m' b p p' h1 h2 h5 h6
  · intro m b q h1 h3
    rcases st m q h3 with ⟨rfl, rfl⟩ | ⟨hne, h⟩
    · rw [ha] at h1; cases h1; exact ⟨hA, hn⟩
    · obtain ⟨z1, z2⟩ := r.ob m b q h1 h
      have hb : b ≠ a := fun z => by subst z; exact hne (r.inj m n b q o h1 ha h hs)
      refine ⟨z1, ?_⟩
      exact ORep.keep' (c := c) (c' := c) k (List.prefix_refl _) (fun o e => by rw [upd_ne hb]; exact e) z2
  · intro b h
    by_cases e : b = a
    · subst e; exact ⟨ho, upd_same⟩
    · obtain ⟨q, z⟩ := r.tr b h
      exact ⟨q, by rw [upd_ne e]; exact z⟩
  · intro b vs h z
    by_cases e : b = a
    · subst e; rw [upd_same] at h; exact nt vs (Option.some.inj h)
    · rw [upd_ne e] at h; exact r.nt b vs h z
  · by_cases e : b = a
    · subst e; exact absurd ⟨n, o, ha, hs⟩ z
    · rw [upd_ne e]; exact h
  · rintro b ⟨m, q, h1, h3⟩
    obtain ⟨p, h5⟩ := lv m q h3
    exact .inl ⟨m, p, h1, h5⟩
theorem write_kp {c : Cor Ω} {S : Sto} {H : Hp} (r : Rel c S H) {n : Nat} {a : Addr} {ho : HO} {o : O} (ha : c.m[n]? = some a) (hs : S[n]? = some (some o)) : Kp c.A H c.A (upd H a ho) := by
  have hA := (r.ob n a o ha hs).1
  exact ⟨fun b vs h => by rw [upd_ne (show b ≠ a from fun z => r.nt b vs h (by rw [z]; exact hA))]; exact h, fun b q h z => by rw [upd_ne (show b ≠ a from fun y => z (by rw [y]; exact hA))]; exact h, fun _ _ _ z => z⟩
end DL
namespace DL
open PySem PySem.Spec PyProof.Rows L2
noncomputable def mkLoc (vs : List Val) (S : Sto) : R Val := match allD vs with
  | some ds => if ds.length ≤ 1000 then .ok (.loc S.length) (S ++ [some (.lst ds)]) else .bad
  | none => .bad
noncomputable def eLstM (f : La) : Ex := fun ρ S => (f ρ S).bind mkLoc
noncomputable def eDicM : Ex := fun _ S => .ok (.loc S.length) (S ++ [some (.dic [])])
noncomputable def appL (v w : Val) (S : Sto) : R Val := match v, w with
  | .loc n, .d x => match S[n]? with
    | some (some (.lst ds)) => if ds.length < sizeLine then .ok (.d .none) (S.set n (some (.lst (ds ++ [x])))) else .bad
    | _ => .bad
  | _, _ => .bad
noncomputable def isLst (S : Sto) (v : Val) : Bool := match v with
  | .loc n => match S[n]? with
    | some (some (.lst _)) => true
    | _ => false
  | _ => false
noncomputable def eApp (fo fe : Ex) : Ex := fun ρ S => (fo ρ S).bind fun v S1 => match isLst S1 v with
  | true => (fe ρ S1).bind fun w S2 => appL v w S2
  | false => .bad
noncomputable def setL (v k w : Val) (S : Sto) : R Unit := match v, k, w with
  | .loc n, .d (.int i), .d x => match S[n]? with
    | some (some (.lst ds)) => match ixN ds.length i with
      | some j => .ok () (S.set n (some (.lst (ds.set j x))))
      | none => .bad
    | _ => .bad
  | _, _, _ => .bad
noncomputable def putKD (kds : List (Key × D)) (k : Key) (v : D) : List (Key × D) := if kds.any (fun kv => decide (kv.1 = k)) then kds.map (fun kv => if kv.1 = k then (kv.1, v) else kv) else kds ++ [(k, v)]
noncomputable def setD (v k w : Val) (S : Sto) : R Unit := match v, k, w with
  | .loc n, .d i, .d x => match S[n]?, keyOf i with
    | some (some (.dic kds)), some kk => if kds.length < sizeLine then .ok () (S.set n (some (.dic (putKD kds kk x)))) else .bad
    | _, _ => .bad
  | _, _, _ => .bad
noncomputable def sPut (p : Val → Val → Val → Sto → R Unit) (fo fi fe : Ex) : Blk := fun ρ S => (fe ρ S).st ρ fun w S1 => (fo ρ S1).st ρ fun v S2 => (fi ρ S2).st ρ fun k S3 => (p v k w S3).st ρ fun _ S4 => .ok (.nx ρ) S4
noncomputable def gSb (p : Val → Val → Val → Sto → R Unit) (fo fi : Ex) : Tg := fun w ρ S => ((fo ρ S).noX).bind fun v S2 => ((fi ρ S2).noX).bind fun k S3 => (p v k w S3).bind fun _ S4 => .ok ρ S4
section
variable {X : Cx} {W : WX} {pos : Pos}
theorem mkLoc_r {mg : Str → Option Value} {vs : List Val} {us : List V} {c : Cor Ω} {S : Sto} {H : Hp} {σ : L2.St} {Q : VK} (hr : Rel c S H) (hv : VRepL c H vs us) (h : Aft mg W c S σ H (mkLoc vs S) fun v c' _ H' => ∀ u, VRep c' H' v u → Q u H') :
    us.length ≤ sizeLine ∧ ∀ p, H p = none → Q (.ref p) (upd H p (.lst us)) := by
  unfold mkLoc at h
  split at h
  · rename_i ds e
    split at h
    · rename_i hl
      have r := allD_rep hv e
      have hz : us.length ≤ sizeLine := by rw [← r.length, sizeLine_eq]; omega
      refine ⟨hz, fun p hp => ?_⟩
      refine h _ _ (Nx.make (ho := .lst us) (o := .lst ds) hr hp (fun _ z => by cases z) ⟨us, upd_same, hz, RepL.keep (make_kp hr hp) _ _ r⟩) _ ⟨p, ?_, rfl⟩
      rw [← hr.len]; simp
    · exact h.elim
  · exact h.elim
theorem se_lstM {es : List Expr} {f : La} (h : SA X W es f) : SE X W (.List es pos) (eLstM f) := PE.imp (pe_lst h) fun σ H Q ⟨c, ρ, S, hr, he, q⟩ =>
  ⟨c, ρ, S, hr, he, (Aft.bind hr q).mono fun vs c1 S1 H1 x1 h1 us hus => mkLoc_r x1.rel hus h1⟩
theorem se_dicM : SE X W (.Dict [] [] pos) eDicM := PE.imp pe_dnewK fun σ H Q ⟨c, ρ, S, hr, he, q⟩ p hp => by
  refine q _ _ (Nx.make (ho := .dK []) (o := .dic []) hr hp (fun _ z => by cases z) ⟨[], upd_same, Nat.zero_le _, .nil⟩) _ ⟨p, ?_, rfl⟩
  rw [← hr.len]; simp
theorem isLst_at {c : Cor Ω} {S : Sto} {H : Hp} {v : Val} {u : V} (hr : Rel c S H) (hv : VRep c H v u) (h : isLst S v = true) : ∃ n a ds vs, v = .loc n ∧ u = .ref a ∧ c.m[n]? = some a ∧ S[n]? = some (some (.lst ds)) ∧ H a = some (.lst vs) ∧ vs.length ≤ sizeLine ∧ RepL c.A H ds vs := by
  unfold isLst at h
  split at h
  · rename_i n
    split at h
    · rename_i ds e
      obtain ⟨a, h1, h2⟩ := hv
      obtain ⟨_, vs, q1, q2, q3⟩ := hr.ob n a _ h1 e
      exact ⟨n, a, ds, vs, rfl, h2, h1, e, q1, q2, q3⟩
    · cases h
  · cases h
theorem se_app {o e : Expr} {fo fe : Ex} {apos : Pos} (ho : SE X W o fo) (he : SE X W e fe) (hbase : attributeBase o "append" X.env (eval o X.env) = eval o X.env := by rfl)
    (hfew : ((backTo pos (starEach [e] X.env)).all (fun x => !x.1) && (backToKw pos (keywordEach [] X.env)).all (fun x => x.1.isSome)
      && decide ([e].length + ([] : List Keyword).length + (if ([] : List Keyword).isEmpty then 0 else 1) < 30)) = true := by rfl)
    (hline : (apos.endLine == pos.line) = true := by rfl) (hs : starEach [e] X.env = (false, eval e X.env) :: starEach [] X.env := by rfl) :
    SE X W (.Call (.Attribute o "append" apos) [e] [] pos) (eApp fo fe) :=
  PE.imp (pe_bm PySem.F.plainAttrs_list PySem.F.slot_list_append PySem.F.type_list_append mt_append ho (pa_cons he pa_nil hs) hbase hfew hline hs rfl) fun σ H Q ⟨c, ρ, S, hr, he, q⟩ => by
    refine ⟨c, ρ, S, hr, he, (Aft.bind hr q).mono fun v c1 S1 H1 x1 h1 u hu => ?_⟩
    cases e1 : isLst S1 v with
    | false => simp only [e1] at h1; exact h1.elim
    | true =>
      simp only [e1] at h1
      obtain ⟨n, a, ds, vs, rfl, rfl, g1, g2, g3, g4, g5⟩ := isLst_at x1.rel hu e1
      refine ⟨.inl ⟨rfl, vs, SqL.of g3⟩, c1, ρ, S1, x1.rel, he.keep hr x1, (Aft.bind x1.rel h1).mono fun w c2 S2 H2 x2 h2 y hy => ?_⟩
      have hv2 : VRep c2 H2 (.loc n) (.ref a) := ⟨a, prefix_get x2.pre g1, rfl⟩
      show rAppend (.ref a) [y] H2 Q
      cases w with
      | loc _ => exact h2.elim
      | scr _ => exact h2.elim
      | er _ => exact h2.elim
      | tup _ => exact h2.elim
      | d x =>
        simp only [appL] at h2
        split at h2
        · rename_i ds2 e2
          split at h2
          · rename_i hl
            obtain ⟨_, vs2, q1, q2, q3⟩ := x2.rel.ob n a _ (prefix_get x2.pre g1) e2
            refine ⟨a, vs2, y, rfl, rfl, q1, by rw [← q3.length]; exact hl, ?_⟩
            refine h2 c2 _ (Nx.write x2.rel (prefix_get x2.pre g1) e2 (fun _ z => by cases z) ⟨vs2 ++ [y], upd_same, ?_, ?_⟩) _ .non
            · rw [List.length_append, ← q3.length]; exact hl
            · exact (RepL.keep (write_kp x2.rel (prefix_get x2.pre g1) e2) _ _ q3).append (.cons (Rep.keep (write_kp x2.rel (prefix_get x2.pre g1) e2) _ _ hy) .nil)
          · exact h2.elim
        · exact h2.elim
noncomputable def SetOk (Ω : PySem.W.Frag) (t : TSet) (p : Val → Val → Val → Sto → R Unit) : Prop := ∀ (mg : Str → Option Value) (W : WX) (c : Cor Ω) (S : Sto) (H : Hp) (σ : L2.St) (v k w : Val) (x y z : V) (Q : Hp → Prop), Rel c S H → VRep c H v x → VRep c H k y → VRep c H w z →
  Aft mg W c S σ H (p v k w S) (fun _ _ _ H' => Q H') → t x y z H Q
theorem setL_ok : SetOk Ω rSetL setL := by
  intro mg W c S H σ v k w x y z Q hr hv hk hw h
  unfold setL at h
  split at h
  · rename_i n i d
    split at h
    · rename_i ds e
      split at h
      · rename_i j hj
        obtain ⟨a, h1, h2⟩ := hv
        subst h2
        cases hk
        obtain ⟨_, vs, q1, q2, q3⟩ := hr.ob n a _ h1 e
        refine ⟨a, vs, i, j, rfl, rfl, q1, by rw [← q3.length]; exact hj, ?_⟩
        exact h c _ (Nx.write hr h1 e (fun _ z => by cases z) ⟨vs.set j z, upd_same, by simpa using q2, RepL.set (Rep.keep (write_kp hr h1 e) _ _ hw) j (RepL.keep (write_kp hr h1 e) _ _ q3)⟩)
      · exact h.elim
    · exact h.elim
  · exact h.elim
theorem any_key {A : Addr → Prop} {H : Hp} (k : Key) : ∀ {kds : List (Key × D)} {kvs : List (Key × V)}, RepK A H (kds.map fun p => (keyD p.1, p.2)) kvs → (kds.any fun kv => decide (kv.1 = k)) = (kvs.any fun kv => decide (kv.1 = k))
  | [], _, h => by cases h; rfl
  | (j, d) :: kds, _, h => by
    generalize hl : (((j, d) :: kds).map fun p => (keyD p.1, p.2)) = l at h
    cases h with
    | nil => cases hl
    | cons h1 h2 =>
      rename_i k' d' v' ds' vs'
      simp only [List.map_cons, List.cons.injEq, Prod.mk.injEq] at hl
      obtain ⟨⟨e1, e2⟩, e3⟩ := hl
      have e4 : j = k' := Option.some.inj ((keyOf_keyD j).symm.trans ((congrArg keyOf e1).trans (keyOf_keyD k')))
      subst e4 e3
      rw [List.any_cons, List.any_cons, any_key k h2]
theorem rep_put {A : Addr → Prop} {H : Hp} {k : Key} {d : D} {v : V} (hd : Rep A H d v) : ∀ {kds : List (Key × D)} {kvs : List (Key × V)}, RepK A H (kds.map fun p => (keyD p.1, p.2)) kvs →
    RepK A H ((kds.map (fun kv => if kv.1 = k then (kv.1, d) else kv)).map fun p => (keyD p.1, p.2)) (kvs.map fun kv => if kv.1 = k then (kv.1, v) else kv)
  | [], _, h => by cases h; exact .nil
  | (j, e) :: kds, _, h => by
    generalize hl : (((j, e) :: kds).map fun p => (keyD p.1, p.2)) = l at h
    cases h with
    | nil => cases hl
    | cons h1 h2 =>
      rename_i k' d' v' ds' vs'
      simp only [List.map_cons, List.cons.injEq, Prod.mk.injEq] at hl
      obtain ⟨⟨e1, e2⟩, e3⟩ := hl
      have e4 : j = k' := Option.some.inj ((keyOf_keyD j).symm.trans ((congrArg keyOf e1).trans (keyOf_keyD k')))
      subst e4 e3 e2
      rw [List.map_cons, List.map_cons, List.map_cons]
      by_cases q : j = k
      · subst q
        simp only [if_true]
        exact .cons hd (rep_put hd h2)
      · simp only [if_neg q]
        exact .cons h1 (rep_put hd h2)
theorem RepK.append {A : Addr → Prop} {H : Hp} : ∀ {a b : List (D × D)} {x y : List (Key × V)}, RepK A H a x → RepK A H b y → RepK A H (a ++ b) (x ++ y)
  | _, _, _, _, .nil, s => s
  | _, _, _, _, .cons h r, s => .cons h (RepK.append r s)
theorem putK_rep {A : Addr → Prop} {H : Hp} {k : Key} {d : D} {v : V} (hd : Rep A H d v) {kds : List (Key × D)} {kvs : List (Key × V)} (h : RepK A H (kds.map fun p => (keyD p.1, p.2)) kvs) :
    RepK A H ((putKD kds k d).map fun p => (keyD p.1, p.2)) (putK kvs k v) := by
  unfold putKD putK
  rw [any_key k h]
  split
  · exact rep_put hd h
  · rw [List.map_append]; exact h.append (.cons hd .nil)
theorem setD_ok {X : Cx} : SetOk Ω (fun x y z H Q => ∃ a H', x = .ref a ∧ DPut H a y z H' ∧ Q H') setD := by
  intro mg W c S H σ v k w x y z Q hr hv hk hw h
  unfold setD at h
  split at h
  · rename_i n i d
    split at h
    · rename_i kds kk e e2
      split at h
      · rename_i hl
        obtain ⟨a, h1, h2⟩ := hv
        subst h2
        obtain ⟨_, kvs, q1, q2, q3⟩ := hr.ob n a _ h1 e
        have ek := keyOf_eq e2
        subst ek
        have e3 : y = kV kk := rep_key (A := c.A) (H := H) hk
        subst e3
        have hl' : kvs.length < sizeLine := by rw [← q3.length]; simpa using hl
        refine ⟨a, _, rfl, DPut.k q1 hl', ?_⟩
        exact h c _ (Nx.write hr h1 e (fun _ z => by cases z) ⟨putK kvs kk z, upd_same, Nat.le_trans (length_putK _ _ _) hl', putK_rep (Rep.keep (write_kp hr h1 e) _ _ hw) (RepK.keep (write_kp hr h1 e) _ _ q3)⟩)
      · exact h.elim
    · exact h.elim
  · exact h.elim
theorem put_r {mg : Str → Option Value} {t : TSet} {p : Val → Val → Val → Sto → R Unit} (hp : SetOk Ω t p) {fo fi fe : Ex} {D : Ends} {σ : L2.St} {H : Hp} (h : tS Ω mg W (sPut p fo fi fe) D σ H) :
    tAsg (tE Ω mg W fe) (gSub (tE Ω mg W fo) (tE Ω mg W fi) t) D σ H := by
  obtain ⟨c, ρ, S, hr, he, q⟩ := h
  refine ⟨c, ρ, S, hr, he, (Aft.st hr he q).mono fun w c1 S1 H1 x1 h1 z hz => ?_⟩
  have he1 := he.keep hr x1
  refine ⟨c1, ρ, S1, x1.rel, he1, (Aft.st x1.rel he1 h1).mono fun v c2 S2 H2 x2 h2 x hx => ?_⟩
  have he2 := he1.keep x1.rel x2
  refine ⟨c2, ρ, S2, x2.rel, he2, (Aft.st x2.rel he2 h2).mono fun k c3 S3 H3 x3 h3 y hy => ?_⟩
  have he3 := he2.keep x2.rel x3
  exact hp mg W c3 S3 H3 σ v k w x y z _ x3.rel (hx.keep x2.rel x3) hy ((hz.keep x1.rel x2).keep x2.rel x3) ((Aft.st x3.rel he3 h3).mono fun _ c4 S4 H4 x4 h4 => h4 c4 σ H4 (Nx.refl x4.rel) (he3.keep x3.rel x4))
theorem ss_setL {o i e : Expr} {fo fi fe : Ex} {pos' : Pos} (ho : SE X W o fo) (hi : SE X W i fi) (he : SE X W e fe)
    (h : PS X (.Assign [.Subscript o i pos'] e pos) (tAsg (tE X.K X.mg W fe) (gSub (tE X.K X.mg W fo) (tE X.K X.mg W fi) rSetL))) : SS X W (.Assign [.Subscript o i pos'] e pos) (sPut setL fo fi fe) := PS.imp h fun D σ H q => put_r setL_ok q
theorem ss_setD (hu : X.A.units + 1 < cLine) {o i e : Expr} {fo fi fe : Ex} {pos' : Pos} (ho : SE X W o fo) (hi : SE X W i fi) (he : SE X W e fe)
    (hs : swapsWith e (some (.Subscript o i pos')) pos.line X.env = pure false := by rfl) : SS X W (.Assign [.Subscript o i pos'] e pos) (sPut setD fo fi fe) := PS.imp (ps_dput hu ho hi he hs) fun D σ H q => put_r (setD_ok (X := X)) q
theorem noX_r {mg : Str → Option Value} {α β : Type} {c : Cor Ω} {S : Sto} {H : Hp} {σ : L2.St} (hr : Rel c S H) {r : R α} {k : α → Sto → R Ev} {Q : L2.St → Hp → Prop} (h : AftG c S H ((r.noX).bind k) Q) :
    Aft mg W c S σ H r fun a c1 S1 H1 => AftG c1 S1 H1 (k a S1) Q := by
  cases r with
  | ok a S1 => exact fun c1 H1 x => AftG.later hr x h
  | exc x S' => exact h.elim
  | bad => exact h.elim
theorem sg_sub {o i : Expr} {fo fi : Ex} {t : TSet} {p : Val → Val → Val → Sto → R Unit} (ho : SE X W o fo) (hi : SE X W i fi) (hp : SetOk X.K t p) (h : PG X (.Subscript o i pos) (gSub (tE X.K X.mg W fo) (tE X.K X.mg W fi) t)) : SG X (.Subscript o i pos) (gSb p fo fi) :=
  PG.imp h fun u σ H Q ⟨c, ρ, S, w, hr, he, hv, q⟩ => by
    refine ⟨c, ρ, S, hr, he, (noX_r (β := Val) hr q).mono fun v c2 S2 H2 x2 h2 x hx => ?_⟩
    refine ⟨c2, ρ, S2, x2.rel, he.keep hr x2, (noX_r (β := Val) x2.rel h2).mono fun k c3 S3 H3 x3 h3 y hy => ?_⟩
    refine hp X.mg (fun _ _ _ _ => False) c3 S3 H3 σ v k w x y u _ x3.rel (hx.keep x2.rel x3) hy ((hv.keep hr x2).keep x2.rel x3) ?_
    revert h3
    generalize p v k w S3 = r
    cases r with
    | ok a S4 => exact fun h3 c4 H4 x4 => h3 c4 σ H4 x4 (((he.keep hr x2).keep x2.rel x3).keep x3.rel x4)
    | exc _ _ => exact fun h3 => h3.elim
    | bad => exact fun h3 => h3
end
noncomputable def whileN (t : Te) (g : Blk) : Nat → Blk
  | 0 => fun _ _ => .bad
  | n + 1 => fun ρ S => (t ρ S).st ρ fun b S1 => match b with
    | false => .ok (.nx ρ) S1
    | true => match g ρ S1 with
      | .ok (.nx ρ') S' => whileN t g n ρ' S'
      | .ok (.ct ρ') S' => whileN t g n ρ' S'
      | .ok (.bk ρ') S' => .ok (.nx ρ') S'
      | r => r
theorem ss_while {X : Cx} {W : WX} {pos : Pos} {e : Expr} {body : List Stmt} {t : Te} {g : Blk} (n : Nat) (hp : PassesOwn (model X.prog X.w) X.A X.env X.xe) (ht : ST X W e t) (hg : SSs X W body g) : SS X W (.While e body [] pos) (whileN t g n) :=
  PS.imp (ps_while hp ht hg) fun D σ H ⟨c, ρ, S, hr, he, q⟩ => by
    refine ⟨fun m σ H => ∃ (c : Cor X.K) (ρ : Ev) (S : Sto), Rel c S H ∧ RepE c H ρ σ ∧ AftS X.mg W c S H (whileN t g m ρ S) D, ⟨n, c, ρ, S, hr, he, q⟩, ?_⟩
    rintro m σ H ⟨c, ρ, S, hr, he, q⟩
    cases m with
    | zero => exact q.elim
    | succ m =>
      refine ⟨c, ρ, S, hr, he, (Aft.st hr he q).mono fun b c1 S1 H1 x1 h1 => ?_⟩
      have he1 := he.keep hr x1
      cases b with
      | false => exact iteF (h1 c1 σ H1 (Nx.refl x1.rel) he1)
      | true =>
        refine iteT ⟨fun σ' H' => ∃ (c : Cor X.K) (ρ : Ev) (S : Sto), Rel c S H' ∧ RepE c H' ρ σ' ∧ AftS X.mg W c S H' (whileN t g m ρ S) D, fun σ' H' z => ⟨m, Nat.lt_succ_self m, z⟩, c1, ρ, S1, x1.rel, he1, ?_⟩
        revert h1
        simp only
        cases g ρ S1 with
        | ok fl S' =>
          cases fl with
          | nx ρ' => exact fun h1 c2 σ2 H2 x2 e2 => ⟨c2, ρ', S', x2.rel, e2, AftS.later x1.rel x2 h1⟩
          | ct ρ' => exact fun h1 c2 σ2 H2 x2 e2 => ⟨c2, ρ', S', x2.rel, e2, AftS.later x1.rel x2 h1⟩
          | bk ρ' => exact fun h1 => h1
          | rt v => exact fun h1 => h1
          | ex z ρ' => exact fun h1 => h1
        | exc z S' => exact fun h1 => h1
        | bad => exact fun h1 => h1
structure WD (c : Cor Ω) (S : Sto) (H : Hp) (ds : List D) (J : It) : Prop where
  walk : Walk J ds.length (fun H' => ∀ a o, H a = some o → ¬ live c S a → H' a = some o)
    (fun i H1 x H2 => ∃ d, ds[i]? = some d ∧ (H2 = H1 ∨ ∃ T vs, H1 T = none ∧ H2 = upd H1 T (.tup vs)) ∧ ∀ A : Addr → Prop, (∀ a o, H a = some o → A a → c.A a) → Rep A H2 d x)
  len : ds.length ≤ sizeLine
noncomputable abbrev Iy := Ev → Sto → R (List D)
noncomputable def tI (Ω : PySem.W.Frag) (mg : Str → Option Value) (W : WX) (f : Iy) : TI := fun σ H R' => ∃ (c : Cor Ω) (ρ : Ev) (S : Sto), Rel c S H ∧ RepE c H ρ σ ∧ Aft mg W c S σ H (f ρ S) fun ds c' S' H' => ∀ J, WD c' S' H' ds J → R' J H'
noncomputable abbrev SI (X : Cx) (W : WX) (tg e : Expr) (f : Iy) : Prop := PI X tg e (tI X.K X.mg W f)
theorem PI.imp {X : Cx} {tg e : Expr} {t t' : TI} (h : PI X tg e t) (hi : ∀ σ H R, t' σ H R → t σ H R) : PI X tg e t' := ⟨fun pins s σ H R I hw => h.run pins s σ H R I (hi σ H R hw)⟩
theorem PI.or {X : Cx} {tg e : Expr} {t t' : TI} (h : PI X tg e t) (h' : PI X tg e t') : PI X tg e (fun σ H R => t σ H R ∨ t' σ H R) := ⟨fun pins s σ H R I hw => by
  rcases hw with hw | hw
  · exact h.run pins s σ H R I hw
  · exact h'.run pins s σ H R I hw⟩
noncomputable def forL (tg : Tg) (g : Blk) : List D → Blk
  | [], ρ, S => .ok (.nx ρ) S
  | d :: ds, ρ, S => ((tg (.d d) ρ S).noX).st ρ fun ρ1 S1 => match g ρ1 S1 with
    | .ok (.nx ρ') S' => forL tg g ds ρ' S'
    | .ok (.ct ρ') S' => forL tg g ds ρ' S'
    | .ok (.bk ρ') S' => .ok (.nx ρ') S'
    | r => r
noncomputable def sFor (fi : Iy) (tg : Tg) (g : Blk) : Blk := fun ρ S => (fi ρ S).st ρ fun ds S1 => forL tg g ds ρ S1
theorem for_r {mg : Str → Option Value} {W : WX} {fi : Iy} {t : Tg} {g : Blk} {D : Ends} {σ : L2.St} {H : Hp} (h : tS Ω mg W (sFor fi t g) D σ H) : tFor (tI Ω mg W fi) (tG Ω t) (tS Ω mg W g) D σ H := by
    obtain ⟨c, ρ, S, hr, he, q⟩ := h
    refine ⟨c, ρ, S, hr, he, (Aft.st hr he q).mono fun ds c1 S1 H1 x1 h1 J wd => ?_⟩
    have he1 := he.keep hr x1
    have r1 := x1.rel
    refine for_it wd.walk (fun i σ H => ∃ c' ρ' S', Nx c1 S1 H1 c' S' H ∧ RepE c' H ρ' σ ∧ AftS mg W c' S' H (forL t g (ds.drop i) ρ' S') D) ⟨c1, ρ, S1, Nx.refl r1, he1, h1⟩ (fun i σ H _ ⟨c', ρ', S', x, _⟩ => x.fr) ?_ ?_
    · rintro i x σ2 H2 H3 hi ⟨c', ρ', S', x2, e2, q2⟩ ⟨d, hd, hg, hrep⟩
      have hx3 : Nx c' S' H2 c' S' H3 := by
        rcases hg with rfl | ⟨T, vs, hT, rfl⟩
        · exact Nx.refl x2.rel
        · exact Nx.new x2.rel hT
      have hdrop : ds.drop i = d :: ds.drop (i + 1) := by
        obtain ⟨hl, e⟩ := List.getElem?_eq_some_iff.mp hd
        rw [List.drop_eq_getElem_cons hl, e]
      rw [hdrop] at q2
      have q3 := AftS.later x2.rel hx3 q2
      have y := x2.trans r1 hx3
      refine ⟨c', ρ', S', .d d, hx3.rel, e2.keep x2.rel hx3, hrep c'.A (fun a o ha z => by
        rcases x2.grow a z with z | z
        · exact z
        · rw [ha] at z; cases z), ?_⟩
      revert q3
      simp only [forL]
      cases t (.d d) ρ' S' with
      | exc _ _ => exact fun q3 => q3.elim
      | bad => exact fun q3 => q3.elim
      | ok ρ1 S2 =>
        intro q3 c4 σ4 H4 x4 e4
        have q4 := AftS.later hx3.rel x4 q3
        refine ⟨c4, ρ1, S2, x4.rel, e4, ?_⟩
        revert q4
        simp only [R.noX, R.st]
        cases g ρ1 S2 with
        | ok fl S5 =>
          cases fl with
          | nx ρ' => exact fun h1 c5 σ5 H5 x5 e5 => ⟨c5, ρ', S5, (y.trans r1 x4).trans r1 x5, e5, AftS.later x4.rel x5 h1⟩
          | ct ρ' => exact fun h1 c5 σ5 H5 x5 e5 => ⟨c5, ρ', S5, (y.trans r1 x4).trans r1 x5, e5, AftS.later x4.rel x5 h1⟩
          | bk ρ' => exact fun h1 => h1
          | rt v => exact fun h1 => h1
          | ex z ρ' => exact fun h1 => h1
        | exc z S' => exact fun h1 => h1
        | bad => exact fun h1 => h1
    · rintro σ2 H2 ⟨c', ρ', S', x2, e2, q2⟩
      rw [List.drop_length] at q2
      exact q2 c' σ2 H2 (Nx.refl x2.rel) e2
theorem ss_for {X : Cx} {W : WX} {pos : Pos} {tg e : Expr} {body : List Stmt} {fi : Iy} {t : Tg} {g : Blk} (hp : PassesOwn (model X.prog X.w) X.A X.env X.xe) (hc : X.calm = true) (hi : SI X W tg e fi) (ht : SG X tg t) (hg : SSs X W body g)
    (hs : ∀ x, foldedSetIterable e X.env x = pure x := by intro _; rfl) : SS X W (.For tg e body [] pos) (sFor fi t g) :=
  PS.imp (ps_for hp hc hi ht hg hs) fun D σ H h => for_r h
end DL
namespace DL
open PySem PySem.Spec PyProof.Rows L2
open Sem (wp)
open AutoSeq1 (wpAny_loadPart')
theorem meets_enum1 {v : Value} {o : Obj} {H : Heap → Prop} (B : Begins v o H) :
    Meets (Builtin.«enumerate.__new__» ⟨[.type "enumerate", v], []⟩) (fun _ R s => H s.heap ∧
      R (.ok (.ret (.ref (s.heap.push o).objs.size))) { s with heap := (s.heap.push o).push { cls := .type "enumerate", data := .fields #[.none, .bool false, .ref s.heap.objs.size, rawInt 0, .none, .none] } }) :=
  .of_wp fun prog w A R s h => by
    obtain ⟨hp, g, d, tk, os⟩ := s; obtain ⟨h1, h⟩ := h
    have hsub := sub_enumerate
    have q1 : ∀ {A' : Around} {E : Value → Shared → Prop} {Q : Value → Shared → Prop}, Q (.ref hp.objs.size) ⟨hp.push o, g, d, tk, os⟩ → wpAny (model prog w) A' (pyIter v) Q E ⟨hp, g, d, tk, os⟩ :=
      fun q => B.iter prog w _ _ ⟨hp, g, d, tk, os⟩ _ h1 q
    wp_walk using q1
    refine wpAny_stack_any fun st => wpAny_pure ?_
    split
    · rename_i c _ _ _ _ _
      cases (c == Value.type "enumerate")
      · wp_walk using q1
        exact ⟨_, rfl, h⟩
      · wp_walk using q1
        exact ⟨_, rfl, h⟩
    · wp_walk using q1
      exact ⟨_, rfl, h⟩
theorem enum_begins1 {prog : Program} {w : World} {A : Around} {E : Value → Shared → Prop} {s : Shared} {v : Value} {o : Obj} {H : Heap → Prop} {Q : Value → Shared → Prop} (B : Begins v o H) (h1 : H s.heap)
    (h : ∀ h', IsEnum h' (s.heap.objs.size + 1) s.heap.objs.size 0 .none → h'.get? s.heap.objs.size = some o → h'.objs.size = s.heap.objs.size + 2 →
      (∀ b o, s.heap.get? b = some o → h'.get? b = some o) → Q (.ref (s.heap.objs.size + 1)) { s with heap := h' }) :
    wpAny (model prog w) A (call (.type "enumerate") [v]) Q E s := by
  refine callType_new F.called_enumerate (by decide) (F.typeCall_enumerate_1 _) (F.newCall_enumerate_1 _) (fun obj => F.args_object_init_2 obj _) F.entry_enumerate_new
    (meets_enum1 B) ⟨h1, ?_⟩
  have hz : (s.heap.push o).objs.size = s.heap.objs.size + 1 := Heap.size_push ..
  show _ ∧ _
  rw [hz]
  have he : IsEnum ((s.heap.push o).push { cls := .type "enumerate", data := .fields #[.none, .bool false, .ref s.heap.objs.size, rawInt 0, .none, .none] }) (s.heap.objs.size + 1) s.heap.objs.size 0 .none := by
    have := Heap.get?_push_size (s.heap.push o) (o := { cls := .type "enumerate", data := .fields #[.none, .bool false, .ref s.heap.objs.size, rawInt 0, .none, .none] }) rfl
    rw [hz] at this; exact this
  refine ⟨⟨_, he, rfl⟩, h _ he (Heap.get?_push_of_some _ (Heap.get?_push_size _ B.free)) (by rw [Heap.size_push, hz]) fun b o x => Heap.get?_push_of_some _ (Heap.get?_push_of_some _ x)⟩
noncomputable def IteT (K : PySem.W.Frag) (a : Addr) : It :=
  ⟨fun i H => ∃ (xs : List V) (x : V), SqT K H a xs ∧ xs[i]? = some x, fun i H v H' => ∃ T x, v = .ref T ∧ H T = none ∧ H' = upd H T (.tup [.int (i : Nat), x]) ∧ ∀ xs, SqT K H a xs → xs[i]? = some x, fun i H => ∃ xs : List V, SqT K H a xs ∧ xs.length = i⟩
theorem turn_enumT {P : Program} {w : World} {K : PySem.W.Frag} {elts : List Expr} {kk : Nat} {tpos : Pos} (a e it : Addr) :
    Turn P w K (.Tuple elts kk tpos) (IteT K a) [e, it] e (fun i h => (∃ old, IsEnum h e it ((i : Nat) : Int) old) ∧ h.IsTupleIter it a i ∧ e ≠ it) where
  mem := by simp
  obj := fun i h st b hb => by
    obtain ⟨⟨old, he⟩, ⟨o, ho, hc, hd⟩, _⟩ := st
    have e' : b = e ∨ b = it := by simpa using hb
    rcases e' with z | z
    · rw [z]; exact ⟨_, he, fun v q => nomatch q⟩
    · rw [z]; exact ⟨o, ho, fun v q => by rw [hd] at q; cases q⟩
  keep := fun i h h' st k => let ⟨⟨old, he⟩, hi, hne⟩ := st; ⟨⟨old, k e (by simp) _ he⟩, hi.at fun o q => k it (by simp) o q, hne⟩
  item := by
    intro X hP hw hK hc i pins s σ H E I hf st hg
    subst hP hw hK
    obtain ⟨⟨old, he⟩, hit, hne⟩ := st
    obtain ⟨xs, x, hq, hx⟩ := hg
    obtain ⟨its, rv, p, hz⟩ := I.tuple hq
    obtain ⟨u, hu, ru⟩ := rv.get hx
    have hel : e < s.heap.objs.size := Heap.lt_size he
    have hil : it < s.heap.objs.size := by obtain ⟨_, q, _⟩ := hit; exact Heap.lt_size q
    have hai : a ≠ it := fun z => by
      obtain ⟨o, q1, q2, _⟩ := hit
      obtain ⟨o', p1, p2, _⟩ := p
      rw [z, q1] at p1; cases p1; rw [q2] at p2; exact absurd p2 (by decide)
    have hae : a ≠ e := fun z => by
      obtain ⟨o', p1, p2, _⟩ := p
      rw [z] at p1
      have he' : s.heap.get? e = some _ := he
      rw [he'] at p1; cases p1; exact absurd (show Value.type "enumerate" = Value.type "tuple" from p2) (by decide)
    have D := Draws.tuple (prog := X.prog) (w := X.w) (A := X.A.in1) (by simpa using I.ok.hd hc) it a hai its.toArray
    have hlt : i < its.toArray.size := by
      have := (List.getElem?_eq_some_iff.mp hu).1
      simpa using this
    refine wpAny_pyNext_enum_itemD D he ⟨hit, p⟩ hlt hne (by simp; exact ⟨hne, fun z => hae z.symm⟩) fun x1 h' tk hP ho hit' hT hsz hk => ?_
    have hx1 : x1 = u := by
      have h1 : its.toArray[i]? = some u := by simpa using hu
      exact Option.some.inj (hP.symm.trans h1)
    subst hx1
    refine ⟨_, rfl, wpAny_letOwnedTupleGo_enum (s := { s with heap := h', toks := tk + 1 }) ho fun h'' he' sb => ?_⟩
    have hT2 : h''.get? s.heap.objs.size = some { cls := .type "tuple", data := .seq #[.int i tk, x1] } := (sb.2 _ (Nat.ne_of_gt hel)).trans hT
    have new : ObjOk X.prog X.w (upd H s.heap.objs.size (.tup [.int (i : Nat), x])) h'' s.heap.objs.size (.tup [.int (i : Nat), x]) :=
      ⟨by show 2 ≤ sizeLine; decide, [.int i tk, x1], .cons ⟨_, rfl⟩ (.cons ru .nil), ⟨_, hT2, rfl, _, rfl⟩⟩
    have I1 : Inv X pins σ (upd H s.heap.objs.size (.tup [.int (i : Nat), x])) { s with heap := h'', toks := tk + 1 } :=
      I.turnedNew (ch := [e, it]) (fun b ob hb q => (sb.2 b (fun z => hb (by simp [z]))).trans (hk b ob (fun z => hb (by simp [z])) (fun z => hb (by simp [z])) q)) hf (Nat.le_refl _) new
    refine ⟨.ref s.heap.objs.size, _, I1, rfl, ⟨_, x, rfl, I.hok.fresh (Nat.le_refl _), rfl, fun ys hy => by rw [I.tuple_inj hy hq]; exact hx⟩, ⟨⟨x1, ?_⟩, hit'.1.at fun o q => (sb.2 it (Ne.symm hne)).trans q, hne⟩, fun b hb => ?_⟩
    · have e1 : ((i + 1 : Nat) : Int) = (i : Int) + 1 := by omega
      rw [e1]; exact he'
    · have hb' : b < s.heap.objs.size := by
        have e' : b = e ∨ b = it := by simpa using hb
        rcases e' with z | z
        · rw [z]; exact hel
        · rw [z]; exact hil
      rw [upd_ne (Nat.ne_of_lt hb')]
      exact (hf b hb).1
  done := by
    intro X hP hw hK hc i pins s σ H E I hf st hg
    subst hP hw hK
    obtain ⟨⟨old, he⟩, hit, hne⟩ := st
    obtain ⟨xs, hq, hx⟩ := hg
    obtain ⟨its, rv, p, hz⟩ := I.tuple hq
    obtain ⟨f0, f1, f2, f3, f4, f5⟩ := hf it (by simp)
    have hl := rv.length
    have hai : a ≠ it := fun z => by
      obtain ⟨o, q1, q2, _⟩ := hit
      obtain ⟨o', p1, p2, _⟩ := p
      rw [z, q1] at p1; cases p1; rw [q2] at p2; exact absurd p2 (by decide)
    have D := Draws.tuple (prog := X.prog) (w := X.w) (A := X.A.in1) (by simpa using I.ok.hd hc) it a hai its.toArray
    have hn : i = its.toArray.size := by simp; omega
    subst hn
    exact wpAny_pyNext_enum_endD D he ⟨hit, p⟩ fun h' eb => ⟨rfl, I.turned (t' := s.toks) (fun b o hb q => eb b o hb q) f0 f1 f3 f4 f5⟩
  self := fun A i s Q E st h => let ⟨⟨_, he⟩, _⟩ := st; wpAny_pyIter_enum he h
noncomputable def iEnumT (K : PySem.W.Frag) (ta : TA) : TI := fun σ H R => ta σ H fun vs H1 => ∃ a xs, vs = [.ref a] ∧ SqT K H1 a xs ∧ R (IteT K a) H1
theorem pi_enumT {X : Cx} {e : Expr} {ta : TA} {p pos tpos : Pos} {elts : List Expr} {kk : Nat} (hg : Gl X "enumerate") (hm : X.mg "enumerate" = none) (ha : PA X [e] ta) (hs : starEach [e] X.env = [(false, eval e X.env)] := by rfl) :
    PI X (.Tuple elts kk tpos) (.Call (.Name "enumerate" p) [e] [] pos) (iEnumT X.K ta) := by
  refine ⟨fun pins s σ H R I h => ?_⟩
  refine Call_ (ld_blt I hg hm boot_enumerate (PyProof.Rows.callWith_type1 (thn (ha.run pos pins s σ H _ I h) fun us s1 ⟨vs, H1, I1, r1, q1⟩ => ?_) hs rfl))
  obtain ⟨a, xs, ex, hq, q⟩ := q1
  subst ex
  cases r1 with
  | cons r rr =>
    cases rr
    cases r
    obtain ⟨its, rv, p', hz⟩ := I1.tuple hq
    refine enum_begins1 (begins_tuple a its.toArray) p' fun h' he hit hsz hk => wpAny_pyIter_enum he ?_
    have I2 : Inv X pins σ H1 { s1 with heap := h' } := I1.kept (t' := s1.toks) hk
    refine ⟨s1.heap.objs.size + 1, [s1.heap.objs.size + 1, s1.heap.objs.size], _, _, H1, rfl, I2, turn_enumT a (s1.heap.objs.size + 1) s1.heap.objs.size, ⟨⟨.none, he⟩, ⟨_, hit, rfl, rfl⟩, Nat.succ_ne_self _⟩, fun b hb => ?_, q⟩
    have e' : b = s1.heap.objs.size + 1 ∨ b = s1.heap.objs.size := by simpa using hb
    have hle : s1.heap.objs.size ≤ b := by
      rcases e' with z | z
      · rw [z]; exact Nat.le_add_right _ _
      · rw [z]; exact Nat.le_refl _
    exact I1.fpOk hle (I1.hok.fresh hle)
theorem walk_enumT {K : PySem.W.Frag} {a : Addr} {xs : List V} : Walk (IteT K a) xs.length (fun H => SqT K H a xs) (YPair (fun i => some (.int (i : Nat))) (fun i => xs[i]?)) := by
  refine ⟨fun i _ hi q => ⟨xs, xs[i], q, by simp [hi]⟩, fun _ q => ⟨xs, q, rfl⟩, fun i H v H' _ q y => ?_⟩
  obtain ⟨T, x, h1, h2, h3, h4⟩ := y
  exact ⟨T, .int (i : Nat), x, h1, h2, h3, rfl, h4 xs q⟩
end DL
namespace DL
open PySem PySem.Spec PyProof.Rows L2
section
variable {c : Cor Ω} {S : Sto} {H : Hp}
theorem frame_kp (hr : Rel c S H) {H' : Hp} (g : ∀ a o, H a = some o → ¬ live c S a → H' a = some o) {A : Addr → Prop} (hA : ∀ a o, H a = some o → A a → c.A a) : Kp c.A H A H' :=
  ⟨fun a vs h => g a _ h fun z => hr.nt a vs h (hr.live z), fun a o h n => g a o h fun z => n (hr.live z), hA⟩
theorem wd_at (hr : Rel c S H) {ds : List D} {vs : List V} (r : RepL c.A H ds vs) (hl : vs.length ≤ sizeLine) {J : It} {G : Hp → Prop} (w : Walk J vs.length G (YAt vs)) (hG : ∀ H', (∀ a o, H a = some o → ¬ live c S a → H' a = some o) → G H') : WD c S H ds J := by
  refine ⟨?_, by rw [r.length]; exact hl⟩
  rw [r.length]
  refine w.mono hG fun i H1 x H2 hi hg y => ?_
  obtain ⟨rfl, hx⟩ := y
  obtain ⟨d, h1, h2⟩ := r.getV hx
  exact ⟨d, h1, .inl rfl, fun A hA => Rep.keep (frame_kp hr hg hA) _ _ h2⟩
theorem wd_pair (hr : Rel c S H) {ds : List D} (hl : ds.length ≤ sizeLine) {xs ys : Nat → Option V} {J : It} {G : Hp → Prop} (w : Walk J ds.length G (YPair xs ys)) (hG : ∀ H', (∀ a o, H a = some o → ¬ live c S a → H' a = some o) → G H')
    (hy : ∀ i x y, i < ds.length → xs i = some x → ys i = some y → ∃ d e, ds[i]? = some (.tuple [d, e]) ∧ Rep c.A H d x ∧ Rep c.A H e y) : WD c S H ds J := by
  refine ⟨w.mono hG fun i H1 v H2 hi hg y => ?_, hl⟩
  obtain ⟨T, x, y, rfl, hT, rfl, hx, hy'⟩ := y
  obtain ⟨d, e, h1, h2, h3⟩ := hy i x y hi hx hy'
  refine ⟨_, h1, .inr ⟨T, _, hT, rfl⟩, fun A hA => ?_⟩
  have k : Kp c.A H A (upd H1 T (.tup [x, y])) := by
    have k0 := frame_kp hr hg hA
    refine ⟨fun a vs h => ?_, fun a o h n => ?_, hA⟩
    · have := k0.tup a vs h; rw [upd_ne (ne_of_none this hT)]; exact this
    · have := k0.fr a o h n; rw [upd_ne (ne_of_none this hT)]; exact this
  exact .tup upd_same (by rw [sizeLine_eq]; show 2 ≤ 16777216; decide) (.cons (Rep.keep k _ _ h2) (.cons (Rep.keep k _ _ h3) .nil))
end
noncomputable def itSeq (fe : Ex) : Iy := fun ρ S => (fe ρ S).bind fun v S1 => match v with
  | .d (.list ds) => .ok ds S1
  | .d (.tuple ds) => .ok ds S1
  | .scr ds => .ok ds S1
  | _ => .bad
noncomputable def rangeD (lo : Int) (n : Nat) : List D := (List.range n).map fun i => .int (lo + (i : Nat))
noncomputable def rgI (i j : Int) : Option (List D) := if -4611686018427387904 ≤ i ∧ i < 4611686018427387904 ∧ -4611686018427387904 ≤ j ∧ j < 4611686018427387904 ∧ j - i ≤ 1000000 then some (rangeD i (j - i).toNat) else none
noncomputable def ofL (o : Option (List D)) (S : Sto) : R (List D) := match o with
  | some l => .ok l S
  | none => .bad
noncomputable def itR1 (f : La) : Iy := fun ρ S => (f ρ S).bind fun vs S1 => match vs with
  | [.d (.int j)] => ofL (rgI 0 j) S1
  | _ => .bad
noncomputable def itR2 (f : La) : Iy := fun ρ S => (f ρ S).bind fun vs S1 => match vs with
  | [.d (.int i), .d (.int j)] => ofL (rgI i j) S1
  | _ => .bad
noncomputable def enumD : Nat → List D → List D
  | _, [] => []
  | k, d :: r => .tuple [.int (k : Nat), d] :: enumD (k + 1) r
noncomputable def itEnum (f : La) : Iy := fun ρ S => (f ρ S).bind fun vs S1 => match vs with
  | [.d (.list ds)] => .ok (enumD 0 ds) S1
  | [.d (.tuple ds)] => .ok (enumD 0 ds) S1
  | _ => .bad
noncomputable def zipD : List D → List D → List D := List.zipWith fun d e => .tuple [d, e]
theorem enumD_length : ∀ (k : Nat) (ds : List D), (enumD k ds).length = ds.length
  | _, [] => rfl
  | k, d :: r => by rw [enumD, List.length_cons, List.length_cons, enumD_length]
theorem enumD_get : ∀ (k : Nat) (ds : List D) {i : Nat} {d : D}, ds[i]? = some d → (enumD k ds)[i]? = some (.tuple [.int ((k + i : Nat) : Int), d])
  | _, [], i, d, e => by simp at e
  | k, d :: r, 0, d', e => by simp at e; subst e; rfl
  | k, d :: r, i + 1, d', e => by
    rw [enumD, List.getElem?_cons_succ, enumD_get (k + 1) r (by simpa using e), show k + 1 + i = k + (i + 1) by omega]
section
variable {X : Cx} {W : WX} {tg : Expr}
theorem si_seq {e : Expr} {fe : Ex} (h : SE X W e fe) : SI X W tg e (itSeq fe) := PI.imp (PI.or (pi_list h) (pi_tup h)) fun σ H R' ⟨c, ρ, S, hr, he, q⟩ => by
  unfold itSeq at q
  have q := Aft.bind hr q
  cases e1 : fe ρ S with
  | exc x S' => exact .inl ⟨c, ρ, S, hr, he, by rw [e1] at q ⊢; exact q⟩
  | bad => rw [e1] at q; exact q.elim
  | ok v S1 =>
    rw [e1] at q
    cases v with
    | loc n => exact .inl ⟨c, ρ, S, hr, he, by rw [e1]; exact fun c1 H1 x1 => (q c1 H1 x1).elim⟩
    | er n => exact .inl ⟨c, ρ, S, hr, he, by rw [e1]; exact fun c1 H1 x1 => (q c1 H1 x1).elim⟩
    | tup n => exact .inl ⟨c, ρ, S, hr, he, by rw [e1]; exact fun c1 H1 x1 => (q c1 H1 x1).elim⟩
    | scr ds =>
      refine .inl ⟨c, ρ, S, hr, he, ?_⟩
      rw [e1]
      rintro c1 H1 x1 u ⟨a, vs, rfl, h2, h4, h5⟩
      have hS : ∀ H', (∀ a o, H1 a = some o → ¬ live c1 S1 a → H' a = some o) → SqL X.K H' a vs := fun H' g => by
        rcases h2 with ⟨n, h3 | ⟨o, h3⟩⟩ | h2
        · exact .inl (.inl (g a _ h3 fun z => n (x1.rel.live z)))
        · exact .inl (.inr ⟨o, g a _ h3 fun z => n (x1.rel.live z)⟩)
        · exact h2 H'
      exact ⟨a, rfl, ⟨vs, hS H1 fun _ _ z _ => z⟩, q c1 H1 x1 c1 H1 (Nx.refl x1.rel) _ (wd_at x1.rel h5 h4 walk_list hS)⟩
    | d x =>
      cases x with
      | list ds =>
        refine .inl ⟨c, ρ, S, hr, he, ?_⟩
        rw [e1]
        intro c1 H1 x1 u hu
        cases hu with
        | lst n h1 h2 h3 =>
          exact ⟨_, rfl, ⟨_, SqL.of h1⟩, q c1 H1 x1 c1 H1 (Nx.refl x1.rel) _ (wd_at x1.rel h3 h2 walk_list fun H' g => SqL.of (g _ _ h1 fun z => n (x1.rel.live z)))⟩
      | tuple ds =>
        refine .inr ⟨c, ρ, S, hr, he, ?_⟩
        rw [e1]
        intro c1 H1 x1 u hu
        cases hu with
        | tup h1 h2 h3 =>
          exact ⟨_, rfl, ⟨_, SqT.of h1⟩, q c1 H1 x1 c1 H1 (Nx.refl x1.rel) _ (wd_at x1.rel h3 h2 walk_tup fun H' g => SqT.of (g _ _ h1 fun z => x1.rel.nt _ _ h1 (x1.rel.live z)))⟩
      | none => exact .inl ⟨c, ρ, S, hr, he, by rw [e1]; exact fun c1 H1 x1 => (q c1 H1 x1).elim⟩
      | bool b => exact .inl ⟨c, ρ, S, hr, he, by rw [e1]; exact fun c1 H1 x1 => (q c1 H1 x1).elim⟩
      | int b => exact .inl ⟨c, ρ, S, hr, he, by rw [e1]; exact fun c1 H1 x1 => (q c1 H1 x1).elim⟩
      | str b => exact .inl ⟨c, ρ, S, hr, he, by rw [e1]; exact fun c1 H1 x1 => (q c1 H1 x1).elim⟩
      | dict b => exact .inl ⟨c, ρ, S, hr, he, by rw [e1]; exact fun c1 H1 x1 => (q c1 H1 x1).elim⟩
theorem rangeD_get {lo : Int} {n i : Nat} (h : i < n) : (rangeD lo n)[i]? = some (.int (lo + (i : Nat))) := by simp [rangeD, h]
theorem rangeD_length (lo : Int) (n : Nat) : (rangeD lo n).length = n := by simp [rangeD]
theorem wd_range {c : Cor Ω} {S : Sto} {H : Hp} {lo : Int} {n : Nat} (hl : n ≤ sizeLine) : WD c S H (rangeD lo n) (Itr lo n) := by
  refine ⟨?_, by rw [rangeD_length]; exact hl⟩
  rw [rangeD_length]
  refine (walk_range (lo := lo) (n := n)).mono (fun _ _ => trivial) fun i H1 x H2 hi _ y => ?_
  obtain ⟨rfl, rfl⟩ := y
  exact ⟨_, rangeD_get hi, .inl rfl, fun A _ => .int _⟩
theorem rgI_some {i j : Int} {l : List D} (h : rgI i j = some l) : (-(2 ^ 62) ≤ i ∧ i < 2 ^ 62 ∧ -(2 ^ 62) ≤ j ∧ j < 2 ^ 62) ∧ (j - i).toNat ≤ sizeLine ∧ l = rangeD i (j - i).toNat := by
  unfold rgI at h
  split at h
  · rename_i hc
    refine ⟨by omega, by rw [sizeLine_eq]; omega, (Option.some.inj h).symm⟩
  · cases h
theorem si_range1 {a : Expr} {f : La} {p pos : Pos} (hg : Gl X "range") (hm : X.mg "range" = none) (ha : SA X W [a] f) (hs : starEach [a] X.env = [(false, eval a X.env)] := by rfl) : SI X W tg (.Call (.Name "range" p) [a] [] pos) (itR1 f) :=
  PI.imp (pi_range1 hg hm ha hs) fun σ H R' ⟨c, ρ, S, hr, he, q⟩ => by
    refine ⟨c, ρ, S, hr, he, (Aft.bind hr q).mono fun vs c1 S1 H1 x1 h1 us hus => ?_⟩
    split at h1
    · rename_i j
      cases hus with
      | cons h t =>
        cases t; cases h
        cases e : rgI 0 j with
        | none => rw [e] at h1; exact h1.elim
        | some l =>
          rw [e] at h1
          obtain ⟨hb, hl, rfl⟩ := rgI_some e
          rw [Int.sub_zero] at hl h1
          exact ⟨j, rfl, hb.2.2.1, hb.2.2.2, h1 c1 H1 (Nx.refl x1.rel) _ (wd_range hl)⟩
    · exact h1.elim
theorem si_range2 {a b : Expr} {f : La} {p pos : Pos} (hg : Gl X "range") (hm : X.mg "range" = none) (ha : SA X W [a, b] f) (hs : starEach [a, b] X.env = [(false, eval a X.env), (false, eval b X.env)] := by rfl) (hs2 : starEach [b] X.env = [(false, eval b X.env)] := by rfl) :
    SI X W tg (.Call (.Name "range" p) [a, b] [] pos) (itR2 f) :=
  PI.imp (pi_range2 hg hm ha hs hs2) fun σ H R' ⟨c, ρ, S, hr, he, q⟩ => by
    refine ⟨c, ρ, S, hr, he, (Aft.bind hr q).mono fun vs c1 S1 H1 x1 h1 us hus => ?_⟩
    split at h1
    · rename_i i j
      cases hus with
      | cons h t =>
        cases t with
        | cons h' t =>
          cases t; cases h; cases h'
          cases e : rgI i j with
          | none => rw [e] at h1; exact h1.elim
          | some l =>
            rw [e] at h1
            obtain ⟨hb, hl, rfl⟩ := rgI_some e
            exact ⟨i, j, rfl, hb, h1 c1 H1 (Nx.refl x1.rel) _ (wd_range hl)⟩
    · exact h1.elim
theorem si_enum {e : Expr} {f : La} {p pos tpos : Pos} {elts : List Expr} {kk : Nat} (hg : Gl X "enumerate") (hm : X.mg "enumerate" = none) (ha : SA X W [e] f) (hs : starEach [e] X.env = [(false, eval e X.env)] := by rfl) :
    SI X W (.Tuple elts kk tpos) (.Call (.Name "enumerate" p) [e] [] pos) (itEnum f) := PI.imp (PI.or (pi_enum hg hm ha hs) (pi_enumT hg hm ha hs)) fun σ H R' ⟨c, ρ, S, hr, he, q⟩ => by
  unfold itEnum at q
  have q := Aft.bind hr q
  cases e1 : f ρ S with
  | exc x S' => exact .inl ⟨c, ρ, S, hr, he, by rw [e1] at q ⊢; exact q⟩
  | bad => rw [e1] at q; exact q.elim
  | ok vs S1 =>
    rw [e1] at q
    have q : ∀ c' H', Nx c S H c' S1 H' → Aft X.mg W c' S1 σ H' _ _ := q
    have none : (∀ c' H', Nx c S H c' S1 H' → False) → (iEnum X.K (tA X.K X.mg W f) σ H R' ∨ iEnumT X.K (tA X.K X.mg W f) σ H R') := fun z => .inl ⟨c, ρ, S, hr, he, by rw [e1]; exact fun c1 H1 x1 => (z c1 H1 x1).elim⟩
    match vs, q with
    | [.d (.list ds)], q =>
      refine .inl ⟨c, ρ, S, hr, he, ?_⟩
      rw [e1]
      intro c1 H1 x1 us hus
      cases hus with
      | cons hu t =>
        cases t
        cases hu with
        | lst n h1 h2 h3 =>
          refine ⟨_, _, rfl, SqL.of h1, q c1 H1 x1 c1 H1 (Nx.refl x1.rel) _ (wd_pair x1.rel (by rw [enumD_length, h3.length]; exact h2) (by rw [enumD_length, h3.length]; exact walk_enum) (fun H' g => SqL.of (g _ _ h1 fun z => n (x1.rel.live z))) fun i x y hi hx hy => ?_)⟩
          cases hx
          obtain ⟨d, h4, h5⟩ := h3.getV hy
          exact ⟨_, d, by rw [enumD_get 0 ds h4, Nat.zero_add], .int _, h5⟩
    | [.d (.tuple ds)], q =>
      refine .inr ⟨c, ρ, S, hr, he, ?_⟩
      rw [e1]
      intro c1 H1 x1 us hus
      cases hus with
      | cons hu t =>
        cases t
        cases hu with
        | tup h1 h2 h3 =>
          refine ⟨_, _, rfl, SqT.of h1, q c1 H1 x1 c1 H1 (Nx.refl x1.rel) _ (wd_pair x1.rel (by rw [enumD_length, h3.length]; exact h2) (by rw [enumD_length, h3.length]; exact walk_enumT) (fun H' g => SqT.of (g _ _ h1 fun z => x1.rel.nt _ _ h1 (x1.rel.live z))) fun i x y hi hx hy => ?_)⟩
          cases hx
          obtain ⟨d, h4, h5⟩ := h3.getV hy
          exact ⟨_, d, by rw [enumD_get 0 ds h4, Nat.zero_add], .int _, h5⟩
    | [], q => exact none fun c1 H1 x1 => q c1 H1 x1
    | .loc _ :: _, q => exact none fun c1 H1 x1 => q c1 H1 x1
    | .scr _ :: _, q => exact none fun c1 H1 x1 => q c1 H1 x1
    | .er _ :: _, q => exact none fun c1 H1 x1 => q c1 H1 x1
    | .tup _ :: _, q => exact none fun c1 H1 x1 => q c1 H1 x1
    | .d .none :: _, q => exact none fun c1 H1 x1 => q c1 H1 x1
    | .d (.bool _) :: _, q => exact none fun c1 H1 x1 => q c1 H1 x1
    | .d (.int _) :: _, q => exact none fun c1 H1 x1 => q c1 H1 x1
    | .d (.str _) :: _, q => exact none fun c1 H1 x1 => q c1 H1 x1
    | .d (.dict _) :: _, q => exact none fun c1 H1 x1 => q c1 H1 x1
    | .d (.list _) :: _ :: _, q => exact none fun c1 H1 x1 => q c1 H1 x1
    | .d (.tuple _) :: _ :: _, q => exact none fun c1 H1 x1 => q c1 H1 x1
end
theorem Nx.freeze {c : Cor Ω} {S : Sto} {H : Hp} (r : Rel c S H) {n : Nat} {a : Addr} {o : O} (ha : c.m[n]? = some a) (hs : S[n]? = some (some o)) : Nx c S H ⟨c.m, fun b => c.A b ∧ b ≠ a⟩ (S.set n none) H := by
  have hl : n < S.length := (List.getElem?_eq_some_iff.mp hs).1
  have k : Kp c.A H (fun b => c.A b ∧ b ≠ a) H := ⟨fun _ _ h => h, fun _ _ h _ => h, fun _ _ _ z => z.1⟩
  have st : ∀ m q, (S.set n none)[m]? = some (some q) → m ≠ n ∧ S[m]? = some (some q) := fun m q h => by
    by_cases e : n = m
    · subst e; rw [List.getElem?_set_self hl] at h; cases h
    · rw [List.getElem?_set_ne e] at h; exact ⟨fun z => e z.symm, h⟩
  have ne : ∀ m b q, c.m[m]? = some b → m ≠ n → S[m]? = some (some q) → b ≠ a := fun m b q h1 h2 h3 z => by
    subst z; exact h2 (r.inj m n b q o h1 ha h3 hs)
  refine ⟨List.prefix_refl _, fun _ h => .inl h.1, fun b h l => ⟨h, fun z => l (by subst z; exact ⟨n, o, ha, hs⟩)⟩, ⟨by simpa using r.len, ?_, ?_, fun b h => r.tr b h.1, fun b vs h z => r.nt b vs h z.1⟩, fun _ _ h _ => h, ?_⟩
  · intro m m' b q q' h1 h2 h3 h4
    exact r.inj m m' b q q' h1 h2 (st m q h3).2 (st m' q' h4).2
  · intro m b q h1 h3
    obtain ⟨g1, g2⟩ := st m q h3
    obtain ⟨z1, z2⟩ := r.ob m b q h1 g2
    refine ⟨⟨z1, ne m b q h1 g1 g2⟩, ?_⟩
    exact ORep.keep' (c := c) (c' := ⟨c.m, fun b => c.A b ∧ b ≠ a⟩) k (List.prefix_refl _) (fun o e => e) z2
  · rintro b ⟨m, q, h1, h3⟩
    exact .inl ⟨m, q, h1, (st m q h3).2⟩
noncomputable def objD : O → D
  | .lst ds => .list ds
  | .dic kds => .dict (kds.map fun p => (keyD p.1, p.2))
  | _ => .none
theorem freeze_rep {c : Cor Ω} {S : Sto} {H : Hp} (r : Rel c S H) {n : Nat} {a : Addr} {o : O} (ha : c.m[n]? = some a) (hs : S[n]? = some (some o)) (hl : lf o = true) : Rep (fun b => c.A b ∧ b ≠ a) H (objD o) (.ref a) := by
  have k : Kp c.A H (fun b => c.A b ∧ b ≠ a) H := ⟨fun _ _ h => h, fun _ _ h _ => h, fun _ _ _ z => z.1⟩
  obtain ⟨_, h⟩ := r.ob n a o ha hs
  cases o with
  | lst ds => obtain ⟨vs, q1, q2, q3⟩ := h; exact .lst (fun z => z.2 rfl) q1 q2 (RepL.keep k _ _ q3)
  | dic ds => obtain ⟨vs, q1, q2, q3⟩ := h; exact .dic (fun z => z.2 rfl) (.inl q1) q2 (RepK.keep k _ _ q3)
  | _ => cases hl
noncomputable def frzV (v : Val) (S : Sto) : R Val := match v with
  | .loc n => match S[n]? with
    | some (some o) => if lf o = true then .ok (.d (objD o)) (S.set n none) else .bad
    | _ => .bad
  | v => .ok v S
noncomputable def eFrz (f : Ex) : Ex := fun ρ S => (f ρ S).bind frzV
theorem se_frz {X : Cx} {W : WX} {e : Expr} {f : Ex} (h : SE X W e f) : SE X W e (eFrz f) := PE.imp h fun σ H Q ⟨c, ρ, S, hr, he, q⟩ => by
  refine ⟨c, ρ, S, hr, he, (Aft.bind hr q).mono fun v c1 S1 H1 x1 h1 u hu => ?_⟩
  unfold frzV at h1
  split at h1
  · rename_i n
    split at h1
    · rename_i o ho
      obtain ⟨a, g1, rfl⟩ := hu
      split at h1
      · rename_i hl
        exact h1 _ H1 (Nx.freeze x1.rel g1 ho) _ (freeze_rep x1.rel g1 ho hl)
      · exact h1.elim
    · exact h1.elim
  · exact h1 c1 H1 (Nx.refl x1.rel) _ hu
noncomputable def sFrz (i : Nat) (g : Blk) : Blk := fun ρ S => match ρ[i]? with
  | some (some (.loc n)) => match S[n]? with
    | some (some o) => if lf o = true then g (ρ.set i (some (.d (objD o)))) (S.set n none) else .bad
    | _ => .bad
  | _ => .bad
theorem ss_frz {X : Cx} {W : WX} {sts : List Stmt} {g : Blk} (i : Nat) (h : SSs X W sts g) : SSs X W sts (sFrz i g) := PSs.imp h fun D σ H ⟨c, ρ, S, hr, he, q⟩ => by
  unfold sFrz at q
  split at q
  · rename_i n e1
    split at q
    · rename_i o ho
      split at q
      case isFalse => exact q.elim
      rename_i hlo
      obtain ⟨u, g1, a, g2, rfl⟩ := he.at' i _ e1
      have x := Nx.freeze hr g2 ho
      refine ⟨_, _, _, x.rel, ?_, AftS.later hr x q⟩
      have he1 := he.keep hr x
      have hl : i < ρ.length := (List.getElem?_eq_some_iff.mp e1).1
      refine ⟨by simpa using he1.len, fun j v hj => ?_⟩
      by_cases z : i = j
      · subst z
        rw [List.getElem?_set_self hl] at hj
        cases hj
        exact ⟨_, g1, freeze_rep hr g2 ho hlo⟩
      · rw [List.getElem?_set_ne z] at hj
        exact he1.at' j v hj
    · exact q.elim
  · exact q.elim
noncomputable def cutO : Option O → Option O
  | some o => if lf o = true then some o else none
  | none => none
noncomputable def cutS (n : Nat) (S : Sto) : Sto := (S.take n).map cutO
section
variable {c c1 : Cor Ω} {S S1 : Sto} {H H1 : Hp}
theorem take_get {α : Type} {l : List α} {n i : Nat} {a : α} (h : (l.take n)[i]? = some a) : l[i]? = some a ∧ i < n := by
  rw [List.getElem?_take] at h
  split at h
  · exact ⟨h, by assumption⟩
  · cases h
theorem cutS_get {S : Sto} {n i : Nat} {o : O} (h : (cutS n S)[i]? = some (some o)) : S[i]? = some (some o) ∧ i < n ∧ lf o = true := by
  unfold cutS at h
  rw [List.getElem?_map] at h
  obtain ⟨z, h1, h2⟩ := Option.map_eq_some_iff.mp h
  cases z with
  | none => cases h2
  | some p =>
    simp only [cutO] at h2
    split at h2
    · cases h2; exact ⟨(take_get h1).1, (take_get h1).2, by assumption⟩
    · cases h2
theorem Nx.cut (r : Rel c S H) (x : Nx c S H c1 S1 H1) : Nx c S H ⟨c1.m.take S.length, c1.A⟩ (cutS S.length S1) H1 := by
  have lv : ∀ a, live (⟨c1.m.take S.length, c1.A⟩ : Cor Ω) (cutS S.length S1) a → live c1 S1 a := fun a ⟨n, o, h1, h2⟩ => ⟨n, o, (take_get h1).1, (cutS_get h2).1⟩
  refine ⟨?_, x.grow, x.lock, ⟨?_, ?_, ?_, x.rel.tr, x.rel.nt⟩, x.fr, fun a h => x.lv a (lv a h)⟩
  · show c.m <+: c1.m.take S.length
    obtain ⟨t, e⟩ := x.pre
    rw [← e, ← r.len, List.take_left]
    exact List.prefix_refl _
  · show (c1.m.take S.length).length = (cutS S.length S1).length
    rw [cutS, List.length_map, List.length_take, List.length_take, x.rel.len]
  · intro n n' a o o' h1 h2 h3 h4
    exact x.rel.inj n n' a o o' (take_get h1).1 (take_get h2).1 (cutS_get h3).1 (cutS_get h4).1
  · intro n a o h1 h3
    obtain ⟨z1, z2⟩ := x.rel.ob n a o (take_get h1).1 (cutS_get h3).1
    exact ⟨z1, z2.leaf (cutS_get h3).2.2 rfl⟩
end
end DL
namespace DL
open PySem PySem.Spec PyProof.Rows L2
noncomputable def wipeE (ρ : Ev) : List Nat → Ev
  | [] => ρ
  | v :: vs => (wipeE ρ vs).set v none
theorem wipe_rep {c : Cor Ω} {H : Hp} {ρ : Ev} {σ : L2.St} (h : RepE c H ρ σ) : ∀ vs : List Nat, RepE c H (wipeE ρ vs) (wipe σ vs)
  | [] => h
  | v :: vs => by
    have ih := wipe_rep h vs
    refine ⟨by show ((wipeE ρ vs).set v none).length = ((wipe σ vs).set v none).length; rw [List.length_set, List.length_set]; exact ih.len, fun i w e => ?_⟩
    have e : ((wipeE ρ vs).set v none)[i]? = some (some w) := e
    show ∃ u, ((wipe σ vs).set v none)[i]? = some (some u) ∧ VRep c H w u
    by_cases q : v = i
    · subst q
      by_cases hl : v < (wipeE ρ vs).length
      · rw [List.getElem?_set_self hl] at e; cases e
      · rw [List.getElem?_eq_none (by rw [List.length_set]; omega)] at e; cases e
    · rw [List.getElem?_set_ne q] at e
      obtain ⟨u, h1, h2⟩ := ih.at' i w e
      exact ⟨u, by rw [List.getElem?_set_ne q]; exact h1, h2⟩
theorem wipe_get (σ : L2.St) : ∀ (vs : List Nat) (i : Nat), (wipe σ vs)[i]? = if i ∈ vs then (σ[i]?).map (fun _ => none) else σ[i]?
  | [], i => by simp [wipe]
  | v :: vs, i => by
    show ((wipe σ vs).set v none)[i]? = _
    rw [List.getElem?_set, wipe_get σ vs i, wipe_length]
    by_cases q : v = i
    · subst q
      by_cases hl : v < σ.length
      · simp [hl]
      · simp [hl]
    · have q' : ¬ i = v := fun z => q z.symm
      simp [q, q']
theorem wipe_ext {σ σ' : L2.St} {vs : List Nat} (hl : σ'.length = σ.length) (h : ∀ i, i ∉ vs → σ'[i]? = σ[i]?) : wipe σ' vs = wipe σ vs := by
  apply List.ext_getElem?
  intro i
  rw [wipe_get, wipe_get]
  by_cases q : i ∈ vs
  · simp only [q, if_true]
    by_cases hi : i < σ.length
    · rw [List.getElem?_eq_getElem hi, List.getElem?_eq_getElem (hl ▸ hi)]; rfl
    · rw [List.getElem?_eq_none (by omega), List.getElem?_eq_none (by omega)]
  · simp only [q, if_false]; exact h i q
theorem wipe_wipe (σ : L2.St) (vs : List Nat) : wipe (wipe σ vs) vs = wipe σ vs := wipe_ext (wipe_length _ _) fun i hi => by rw [wipe_get, if_neg hi]
theorem wipe_set {σ : L2.St} {vs : List Nat} {i : Nat} (v : Option V) (hi : i ∈ vs) : wipe (σ.set i v) vs = wipe σ vs := wipe_ext (by simp) fun j hj => List.getElem?_set_ne (show i ≠ j from fun z => hj (by rw [← z]; exact hi))
noncomputable def AftW (vs : List Nat) (σ : L2.St) (c : Cor Ω) (S : Sto) (H : Hp) (r : R Ev) (Q : L2.St → Hp → Prop) : Prop := match r with
  | .ok ρ S' => ∀ c' σ' H', Nx c S H c' S' H' → RepE c' H' ρ σ' → wipe σ' vs = wipe σ vs → Q σ' H'
  | _ => False
noncomputable def tGw (Ω : PySem.W.Frag) (ws : List Nat) (g : Tg) : TG := fun u σ H Q => ∃ (c : Cor Ω) (ρ : Ev) (S : Sto) (v : Val), Rel c S H ∧ RepE c H ρ σ ∧ VRep c H v u ∧ AftW ws σ c S H (g v ρ S) Q
noncomputable def tGsw (Ω : PySem.W.Frag) (ws : List Nat) (g : Tgs) : TGs := fun us σ H Q => ∃ (c : Cor Ω) (ρ : Ev) (S : Sto) (ds : List D), Rel c S H ∧ RepE c H ρ σ ∧ RepL c.A H ds us ∧ AftW ws σ c S H (g ds ρ S) Q
noncomputable abbrev SGw (X : Cx) (ws : List Nat) (e : Expr) (g : Tg) : Prop := PG X e (tGw X.K ws g)
noncomputable abbrev SGsw (X : Cx) (ws : List Nat) (es : List Expr) (g : Tgs) : Prop := PGs X es (tGsw X.K ws g)
section
variable {X : Cx} {W : WX} {pos : Pos} {ws : List Nat}
theorem AftW.later {c c1 : Cor Ω} {S S1 : Sto} {H H1 : Hp} {σ σ1 : L2.St} (hr : Rel c S H) (x : Nx c S H c1 S1 H1) (hw : wipe σ1 ws = wipe σ ws) {r : R Ev} {Q : L2.St → Hp → Prop} (h : AftW ws σ c S H r Q) : AftW ws σ1 c1 S1 H1 r Q := by
  cases r with
  | ok a S' => exact fun c' σ' H' y e z => h c' σ' H' (x.trans hr y) e (z.trans hw)
  | exc x S' => exact h
  | bad => exact h
theorem sgw_name {i : Nat} {x : Str} (hw : i ∈ ws) (hN : X.N.Nodup) (hi : X.N[i]? = some x) (hx : Loc X.env.scope x) (hf : X.fn x = true ∨ X.env.scope.names.lookup x = some .local := by first | exact .inl rfl | exact .inr rfl | assumption) : SGw X ws (.Name x pos) (gNm i) :=
  PG.imp (pg_name hN hi hx hf) fun u σ H Q ⟨c, ρ, S, v, hr, he, hv, q⟩ => q c _ H (Nx.refl hr) (he.set hv i) (wipe_set _ hw)
theorem sgsw_nil : SGsw X ws [] gsNil := PGs.imp pgs_nil fun us σ H Q ⟨c, ρ, S, ds, hr, he, hv, q⟩ => by
  cases hv with
  | nil => exact ⟨rfl, q c σ H (Nx.refl hr) he rfl⟩
  | cons _ _ => exact q.elim
theorem sgsw_cons {e : Expr} {es : List Expr} {g : Tg} {gs : Tgs} (h1 : SGw X ws e g) (h2 : SGsw X ws es gs)
    (hs : (assignEach (e :: es) X.env).map (·.2) = assign e X.env :: (assignEach es X.env).map (·.2) := by rfl) : SGsw X ws (e :: es) (gsCons g gs) := PGs.imp (pgs_cons h1 h2 hs) fun us σ H Q ⟨c, ρ, S, ds, hr, he, hv, q⟩ => by
  cases hv with
  | nil => exact q.elim
  | cons hd ht =>
    refine ⟨_, _, rfl, c, ρ, S, .d _, hr, he, hd, ?_⟩
    simp only [gsCons] at q
    revert q
    generalize g _ ρ S = r
    cases r with
    | ok ρ1 S1 => exact fun q c' σ' H' x e z => ⟨c', ρ1, S1, _, x.rel, e, RepL.keep (x.kp hr) _ _ ht, AftW.later hr x z q⟩
    | exc z S' => exact fun q => q
    | bad => exact fun q => q
theorem sgw_tup {es : List Expr} {k : Nat} {n : Nat} {gs : Tgs} (h : PG X (.Tuple es k pos) (gTup X.K n (tGsw X.K ws gs))) : SGw X ws (.Tuple es k pos) (gTp n gs) := PG.imp h fun u σ H Q ⟨c, ρ, S, v, hr, he, hv, q⟩ => by
  unfold gTp at q
  split at q
  · split at q
    · rename_i ds hl
      cases hv with
      | tup h1 h2 h3 => exact ⟨_, _, rfl, SqT.of h1, by rw [← h3.length]; exact hl, c, ρ, S, ds, hr, he, h3, q⟩
    · exact q.elim
  · exact q.elim
end
noncomputable def item (vs : List Nat) (tg : Tg) (tt : Te) (fe : Ex) (ρ : Ev) (d : D) (S : Sto) : R (Option D) := ((tg (.d d) (wipeE ρ vs) S).noX).bind fun ρ1 S1 => ((tt ρ1 S1).noX).bind fun b S2 => match b with
  | true => ((fe ρ1 S2).noX).bind fun v S3 => match v with
    | .d x => .ok (some x) S3
    | _ => .bad
  | false => .ok none S2
noncomputable def compL (f : D → Sto → R (Option D)) : List D → Sto → R (List D)
  | [], S => .ok [] S
  | d :: ds, S => (f d S).bind fun o S1 => (compL f ds S1).bind fun r S2 => .ok (o.toList ++ r) S2
noncomputable def tYesE : Te := fun _ S => .ok true S
noncomputable def cmp (fi : Iy) (vs : List Nat) (tg : Tg) (tt : Te) (fe : Ex) : Ev → Sto → R (List D) := fun ρ S => (fi ρ S).bind fun ds S1 => compL (item vs tg tt fe ρ) ds S1
noncomputable def eLc (fi : Iy) (vs : List Nat) (tg : Tg) (tt : Te) (fe : Ex) : Ex := fun ρ S => (cmp fi vs tg tt fe ρ S).bind fun r S2 => .ok (.d (.list r)) S2
theorem noX_ok {α : Type} {r : R α} {a : α} {S : Sto} (h : r.noX = .ok a S) : r = .ok a S := by
  cases r with
  | ok b S' => exact h
  | exc _ _ => cases h
  | bad => cases h
theorem bind_ok {α β : Type} {r : R α} {k : α → Sto → R β} {b : β} {S : Sto} (h : r.bind k = .ok b S) : ∃ a S1, r = .ok a S1 ∧ k a S1 = .ok b S := by
  cases r with
  | ok a S1 => exact ⟨a, S1, rfl, h⟩
  | exc _ _ => cases h
  | bad => cases h
theorem item_ok {vs : List Nat} {tg : Tg} {tt : Te} {fe : Ex} {ρ : Ev} {d : D} {S S' : Sto} {o : Option D} (h : item vs tg tt fe ρ d S = .ok o S') :
    ∃ ρ1 S1 b S2, tg (.d d) (wipeE ρ vs) S = .ok ρ1 S1 ∧ tt ρ1 S1 = .ok b S2 ∧ ((b = true ∧ ∃ x, fe ρ1 S2 = .ok (.d x) S' ∧ o = some x) ∨ (b = false ∧ o = none ∧ S' = S2)) := by
  unfold item at h
  obtain ⟨ρ1, S1, h1, h⟩ := bind_ok h
  obtain ⟨b, S2, h2, h⟩ := bind_ok h
  refine ⟨ρ1, S1, b, S2, noX_ok h1, noX_ok h2, ?_⟩
  cases b with
  | true =>
    obtain ⟨v, S3, h3, h⟩ := bind_ok h
    split at h
    · cases h; exact .inl ⟨rfl, _, noX_ok h3, rfl⟩
    · cases h
  | false => cases h; exact .inr ⟨rfl, rfl, rfl⟩
theorem item_noexc {vs : List Nat} {tg : Tg} {tt : Te} {fe : Ex} {ρ : Ev} {d : D} {S : Sto} : ∀ x S', item vs tg tt fe ρ d S ≠ .exc x S' := fun x S' h => by
  unfold item at h
  revert h
  cases (tg (.d d) (wipeE ρ vs) S) with
  | exc _ _ => intro h; cases h
  | bad => intro h; cases h
  | ok ρ1 S1 =>
    simp only [R.noX, R.bind]
    cases tt ρ1 S1 with
    | exc _ _ => intro h; cases h
    | bad => intro h; cases h
    | ok b S2 =>
      cases b with
      | false => intro h; cases h
      | true =>
        simp only
        cases fe ρ1 S2 with
        | exc _ _ => intro h; cases h
        | bad => intro h; cases h
        | ok v S3 => cases v <;> (intro h; cases h)
theorem compL_noexc {f : D → Sto → R (Option D)} (hf : ∀ d S x S', f d S ≠ .exc x S') : ∀ (ds : List D) (S : Sto) x S', compL f ds S ≠ .exc x S'
  | [], S, x, S', h => by cases h
  | d :: ds, S, x, S', h => by
    unfold compL at h
    revert h
    cases e : f d S with
    | exc y S1 => exact (hf d S y S1 e).elim
    | bad => intro h; cases h
    | ok o S1 =>
      simp only [R.bind]
      cases e2 : compL f ds S1 with
      | exc y S2 => exact (compL_noexc hf ds S1 y S2 e2).elim
      | bad => intro h; cases h
      | ok r S2 => intro h; cases h
theorem Nx.poke {c0 : Cor Ω} {S0 : Sto} {H0 : Hp} {p : Addr} {o o' : HO} {c : Cor Ω} {S : Sto} {H : Hp} (hp : H0 p = none) (hA0 : c0.A p) (x : Nx c0 S0 (upd H0 p o) c S H) (r0 : Rel c0 S0 (upd H0 p o)) (nl0 : ¬ live c0 S0 p) (hH : H p = some o) (nt : ∀ vs, o ≠ .tup vs) (nt' : ∀ vs, o' ≠ .tup vs) : Nx c0 S0 (upd H0 p o') c S (upd H p o') := by
  have hA : c.A p := x.lock p hA0 nl0
  have nl : ¬ live c S p := fun z => by
    rcases x.lv p z with z | z
    · exact nl0 z
    · rw [upd_same] at z; cases z
  have k : Kp c.A H c.A (upd H p o') := ⟨fun b vs h => by rw [upd_ne (show b ≠ p from fun z => by subst z; rw [hH] at h; exact nt vs (Option.some.inj h))]; exact h, fun b q h z => by rw [upd_ne (show b ≠ p from fun y => z (by rw [y]; exact hA))]; exact h, fun _ _ _ z => z⟩
  refine ⟨x.pre, fun a h => ?_, x.lock, ⟨x.rel.len, x.rel.inj, fun n a q h1 h2 => ?_, fun a h => ?_, fun a vs h z => ?_⟩, fun a q h l => ?_, fun a h => ?_⟩
  · by_cases e : a = p
    · subst e; exact .inl hA0
    · rcases x.grow a h with z | z
      · exact .inl z
      · rw [upd_ne e] at z ⊢; exact .inr z
  · obtain ⟨z1, z2⟩ := x.rel.ob n a q h1 h2
    have hne : a ≠ p := fun z => nl (by subst z; exact ⟨n, q, h1, h2⟩)
    refine ⟨z1, ?_⟩
    exact z2.keep' k (List.prefix_refl _) fun o e => by rw [upd_ne hne]; exact e
  · by_cases e : a = p
    · subst e; exact ⟨o', upd_same⟩
    · obtain ⟨q, z⟩ := x.rel.tr a h; exact ⟨q, by rw [upd_ne e]; exact z⟩
  · by_cases e : a = p
    · subst e; rw [upd_same] at h; exact nt' vs (Option.some.inj h)
    · rw [upd_ne e] at h; exact x.rel.nt a vs h z
  · by_cases e : a = p
    · subst e; rw [upd_same] at h ⊢; exact h
    · rw [upd_ne e] at h ⊢; exact x.fr a q (by rw [upd_ne e]; exact h) l
  · by_cases e : a = p
    · subst e; exact (nl h).elim
    · rcases x.lv a h with z | z
      · exact .inl z
      · rw [upd_ne e] at z ⊢; exact .inr z
noncomputable def lockC (c : Cor Ω) (p : Addr) : Cor Ω := ⟨c.m, fun a => c.A a ∨ a = p⟩
theorem lock_rel {c : Cor Ω} {S : Sto} {H : Hp} (r : Rel c S H) {p : Addr} {o : HO} (hp : H p = none) (nt : ∀ vs, o ≠ .tup vs) : Rel (lockC c p) S (upd H p o) ∧ ¬ live (lockC c p) S p := by
  have na : ∀ a, c.A a → a ≠ p := fun a h e => by
    obtain ⟨q, z⟩ := r.tr a h
    rw [e, hp] at z; cases z
  have k := make_kp (ho := o) r hp
  refine ⟨⟨r.len, r.inj, fun n a q h1 h2 => ?_, fun a h => ?_, fun a vs h z => ?_⟩, fun ⟨n, q, h1, h2⟩ => na p (r.ob n p q h1 h2).1 rfl⟩
  · obtain ⟨z1, z2⟩ := r.ob n a q h1 h2
    refine ⟨.inl z1, ?_⟩
    exact ORep.keep' (c := c) (c' := lockC c p) k (List.prefix_refl _) (fun o e => by rw [upd_ne (na a z1)]; exact e) z2
  · rcases h with h | h
    · obtain ⟨q, z⟩ := r.tr a h; exact ⟨q, by rw [upd_ne (na a h)]; exact z⟩
    · subst h; exact ⟨o, upd_same⟩
  · rcases z with z | z
    · rw [upd_ne (na a z)] at h; exact r.nt a vs h z
    · subst z; rw [upd_same] at h; exact nt vs (Option.some.inj h)
section
variable {mg : Str → Option Value} {W : WX}
noncomputable abbrev W0 : WX := fun _ _ _ _ => False
theorem lc_run {vs : List Nat} {tg : Tg} {tt : Te} {fe : Ex} {ρ : Ev} {σ : L2.St} {c1 : Cor Ω} {S1 Sf : Sto} {H1 : Hp} {ds total : List D} {J : It} {Q : VK} (hr : Rel c1 S1 H1) (he : RepE c1 H1 ρ σ) (wd : WD c1 S1 H1 ds J)
    (hc : compL (item vs tg tt fe ρ) ds S1 = .ok total Sf)
    (hfin : ∀ (p : Addr) (c' : Cor Ω) (H : Hp) (us : List V), H1 p = none → Nx (lockC c1 p) S1 (upd H1 p (.lst us)) c' Sf H → H p = some (.lst us) → RepL c'.A H total us → us.length ≤ sizeLine → ¬ live c' Sf p → c'.A p → Q (.ref p) H) :
    ∀ p, H1 p = none → ∃ Wv : Nat → Nat → Hp → Prop, (∃ m, Wv 0 m (upd H1 p (.lst []))) ∧ ∀ i m H, Wv i m H →
      (J.stop i H ∧ Q (.ref p) H) ∨ (J.go i H ∧ ∃ Nx : Hp → Prop, (∀ H', Nx H' → ∃ m', m' < m ∧ Wv (i + 1) m' H') ∧ ∀ x H', J.yld i H x H' → tGw Ω vs tg x (wipe σ vs) H' fun σ2 H2 => wipe σ2 vs = wipe σ vs ∧ tT Ω mg W0 tt σ2 H2 fun b H3 =>
        if b = true then tE Ω mg W0 fe σ2 H3 fun y H4 => ∃ acc, H4 p = some (.lst acc) ∧ acc.length < sizeLine ∧ Nx (upd H4 p (.lst (acc ++ [y]))) else Nx H3) := by
  intro p hp
  have ntl : ∀ us : List V, ∀ vs, HO.lst us ≠ .tup vs := fun _ _ z => by cases z
  have LR := fun us => lock_rel (o := .lst us) hr hp (ntl us)
  refine lc_it wd.walk (fun i H => ∃ c' S' done us r, Nx (lockC c1 p) S1 (upd H1 p (.lst us)) c' S' H ∧ H p = some (.lst us) ∧ RepL c'.A H done us ∧ us.length ≤ i ∧ compL (item vs tg tt fe ρ) (ds.drop i) S' = .ok r Sf ∧ done ++ r = total) ?_ ?_ ?_ ?_
  · exact ⟨lockC c1 p, S1, [], [], total, Nx.refl (LR []).1, upd_same, .nil, Nat.le_refl _, hc, rfl⟩
  · rintro i H hi ⟨c', S', done, us, r, x, h1, _⟩ a o ha hl
    have hne := ne_of_none ha hp
    exact x.fr a o (by rw [upd_ne hne]; exact ha) hl
  · rintro i x H H' hi ⟨c', S', done, us, r, x1, h1, h2, h3, h4, h5⟩ ⟨d, hd, hg, hrep⟩
    have hx2 : Nx c' S' H c' S' H' := by
      rcases hg with rfl | ⟨T, vs, hT, rfl⟩
      · exact Nx.refl x1.rel
      · exact Nx.new x1.rel hT
    have hA' : c'.A p := x1.lock p (.inr rfl) (LR us).2
    have nl' : ∀ {c : Cor Ω} {S : Sto} {H0 : Hp}, Nx (lockC c1 p) S1 (upd H1 p (.lst us)) c S H0 → ¬ live c S p := fun y z => by
      rcases y.lv p z with z | z
      · exact (LR us).2 z
      · rw [upd_same] at z; cases z
    have hdrop : ds.drop i = d :: ds.drop (i + 1) := by
      obtain ⟨hl, e⟩ := List.getElem?_eq_some_iff.mp hd
      rw [List.drop_eq_getElem_cons hl, e]
    rw [hdrop] at h4
    unfold compL at h4
    obtain ⟨o, S2, e1, h4⟩ := bind_ok h4
    obtain ⟨r', S3, e2, h4⟩ := bind_ok h4
    have e3 : S3 = Sf ∧ o.toList ++ r' = r := by cases h4; exact ⟨rfl, rfl⟩
    obtain ⟨rfl, rfl⟩ := e3
    obtain ⟨ρ1, Sa, b, Sb, g1, g2, g3⟩ := item_ok e1
    have y1 := x1.trans (LR us).1 hx2
    have he1 : RepE c' H' ρ σ := by
      refine ⟨he.len, fun j v e => ?_⟩
      obtain ⟨u, q1, q2⟩ := he.at' j v e
      refine ⟨u, q1, ?_⟩
      have hk : Kp c1.A H1 (lockC c1 p).A (upd H1 p (.lst us)) := make_kp hr hp
      have hv : VRep (lockC c1 p) (upd H1 p (.lst us)) v u := by
        cases v with
        | d z => exact Rep.keep hk _ _ q2
        | loc n => exact q2
        | scr zs => obtain ⟨a, ws, w1, w2, w4, w5⟩ := q2; exact ⟨a, ws, w1, w2.elim (fun z => .inl ⟨hk.na z.1 z.2, hk.rd z.1 z.2⟩) .inr, w4, RepL.keep hk _ _ w5⟩
        | er z => obtain ⟨a, C, w1, w2, w3, d0, w4, w5⟩ := q2; exact ⟨a, C, w1, fun z => w2 (hk.grow a _ w4 z), w3, d0, hk.fr a _ w4 w2, w5.keep hk⟩
        | tup z => obtain ⟨a, us, w1, w2, w3, w4⟩ := q2; exact ⟨a, us, w1, hk.tup a _ w2, w3, PRepL.keep' (c := c1) (c' := lockC c1 p) hk (List.prefix_refl _) w4⟩
      exact (hv.keep (LR us).1 y1)
    refine ⟨c', wipeE ρ vs, S', .d d, hx2.rel, wipe_rep he1 vs, hrep c'.A (fun a o' ha z => by
      rcases x1.grow a z with z | z
      · rcases z with z | z
        · exact z
        · exact absurd z (ne_of_none ha hp)
      · rw [upd_ne (ne_of_none ha hp), ha] at z; cases z), ?_⟩
    rw [g1]
    intro c2 σ2 H2 x2 e2' hw
    refine ⟨hw.trans (wipe_wipe _ _), c2, ρ1, Sa, x2.rel, e2', ?_⟩
    rw [g2]
    intro c3 H3 x3
    have y3 := (y1.trans (LR us).1 x2).trans (LR us).1 x3
    rcases g3 with ⟨rfl, z, g4, rfl⟩ | ⟨rfl, rfl, rfl⟩
    · refine iteT ⟨c3, ρ1, Sb, x3.rel, e2'.keep x2.rel x3, ?_⟩
      rw [g4]
      intro c4 H4 x4 y hy
      have y4 := y3.trans (LR us).1 x4
      have hp4 : H4 p = some (.lst us) := y4.fr p _ upd_same (LR us).2
      have hlen : us.length < sizeLine := by
        have := wd.len; omega
      refine ⟨us, hp4, hlen, c4, S2, done ++ [z], us ++ [y], r', Nx.poke hp (.inr rfl) y4 (LR us).1 (LR us).2 hp4 (ntl us) (ntl _), upd_same, ?_, by rw [List.length_append]; show us.length + 1 ≤ i + 1; omega, e2, by rw [List.append_assoc]; exact h5⟩
      have hA4 : c4.A p := y4.lock p (.inr rfl) (LR us).2
      have k4 : Kp c4.A H4 c4.A (upd H4 p (.lst (us ++ [y]))) := ⟨fun b vs h => by rw [upd_ne (show b ≠ p from fun z => by subst z; rw [hp4] at h; cases h)]; exact h, fun b q h w => by rw [upd_ne (show b ≠ p from fun y => w (by rw [y]; exact hA4))]; exact h, fun _ _ _ z => z⟩
      exact (RepL.keep k4 _ _ (RepL.keep (((hx2.trans x1.rel x2).trans x1.rel x3).trans x1.rel x4 |>.kp x1.rel) _ _ h2)).append (.cons (Rep.keep k4 _ _ hy) .nil)
    · refine iteF ⟨c3, S2, done, us, r', y3, y3.fr p _ upd_same (LR us).2, RepL.keep (((hx2.trans x1.rel x2).trans x1.rel x3) |>.kp x1.rel) _ _ h2, by omega, e2, h5⟩
  · rintro H ⟨c', S', done, us, r, x1, h1, h2, h3, h4, h5⟩
    rw [List.drop_length] at h4
    cases h4
    rw [List.append_nil] at h5
    subst h5
    refine hfin p c' H us hp x1 h1 h2 (Nat.le_trans h3 wd.len) (fun z => ?_) (x1.lock p (.inr rfl) (LR us).2)
    rcases x1.lv p z with z | z
    · exact (LR us).2 z
    · rw [upd_same] at z; cases z
theorem Nx.unlock {c1 c' : Cor Ω} {S1 Sf : Sto} {H1 H : Hp} {p : Addr} {o : HO} (hr : Rel c1 S1 H1) (hp : H1 p = none) (x : Nx (lockC c1 p) S1 (upd H1 p o) c' Sf H) (nl : ¬ live c' Sf p) : Nx c1 S1 H1 ⟨c'.m, fun a => c'.A a ∧ a ≠ p⟩ Sf H := by
  have k : Kp c'.A H (fun a => c'.A a ∧ a ≠ p) H := ⟨fun _ _ h => h, fun _ _ h _ => h, fun _ _ _ z => z.1⟩
  refine ⟨x.pre, fun a h => ?_, fun a h l => ⟨x.lock a (.inl h) l, fun e => ?_⟩, ⟨x.rel.len, x.rel.inj, fun n a q h1 h2 => ?_, fun a h => x.rel.tr a h.1, fun a vs h z => x.rel.nt a vs h z.1⟩, fun a q h l => ?_, fun a h => ?_⟩
  · rcases x.grow a h.1 with z | z
    · rcases z with z | z
      · exact .inl z
      · exact absurd z h.2
    · rw [upd_ne h.2] at z; exact .inr z
  · obtain ⟨q, z⟩ := hr.tr a h
    rw [e, hp] at z; cases z
  · obtain ⟨z1, z2⟩ := x.rel.ob n a q h1 h2
    refine ⟨⟨z1, fun z => nl (by subst z; exact ⟨n, q, h1, h2⟩)⟩, ?_⟩
    exact ORep.keep' (c := c') (c' := ⟨c'.m, fun a => c'.A a ∧ a ≠ p⟩) k (List.prefix_refl _) (fun o e => e) z2
  · exact x.fr a q (by rw [upd_ne (ne_of_none h hp)]; exact h) l
  · rcases x.lv a h with z | z
    · exact .inl z
    · by_cases e : a = p
      · subst e; exact .inr hp
      · rw [upd_ne e] at z; exact .inr z
theorem eLc_r {fi : Iy} {vs : List Nat} {tg : Tg} {tt : Te} {fe : Ex} {σ : L2.St} {H : Hp} {Q : VK} (h : tE Ω mg W (eLc fi vs tg tt fe) σ H Q) : tLc (tI Ω mg W fi) (tGw Ω vs tg) (tT Ω mg W0 tt) (tE Ω mg W0 fe) vs σ H Q := by
  obtain ⟨c, ρ, S, hr, he, q⟩ := h
  have q1 := Aft.bind hr q
  refine ⟨c, ρ, S, hr, he, (Aft.bind hr q1).mono fun ds c1 S1 H1 x1 h1 J wd => ?_⟩
  cases e : compL (item vs tg tt fe ρ) ds S1 with
  | bad => rw [e] at h1; exact h1.elim
  | exc x S' => exact (compL_noexc (fun d S x S' => item_noexc x S') ds S1 x S' e).elim
  | ok total Sf =>
    rw [e] at h1
    refine lc_run x1.rel (he.keep hr x1) wd e fun p c' H us hp x h2 h3 h4 h5 h6 => ?_
    have k : Kp c'.A H (fun a => c'.A a ∧ a ≠ p) H := ⟨fun _ _ h => h, fun _ _ h _ => h, fun _ _ _ z => z.1⟩
    have y := Nx.unlock x1.rel hp x h5
    exact h1 _ H y _ H (Nx.refl y.rel) _ (.lst (fun z => z.2 rfl) h2 h4 (RepL.keep k _ _ h3))
theorem se_lc {X : Cx} {e : Expr} {fi : Iy} {vs : List Nat} {tg : Tg} {tt : Te} {fe : Ex} (h : PE X e (tLc (tI X.K X.mg W fi) (tGw X.K vs tg) (tT X.K X.mg W0 tt) (tE X.K X.mg W0 fe) vs)) : SE X W e (eLc fi vs tg tt fe) := PE.imp h fun σ H Q q => eLc_r q
theorem ss_setLc {X : Cx} {st : Stmt} {i : Nat} {fi : Iy} {vs : List Nat} {tg : Tg} {tt : Te} {fe : Ex} (h : PS X st (tAsg (tLc (tI X.K X.mg W fi) (tGw X.K vs tg) (tT X.K X.mg W0 tt) (tE X.K X.mg W0 fe) vs) (gName i))) : SS X W st (sSet i (eLc fi vs tg tt fe)) :=
  PS.imp h fun D σ H ⟨c, ρ, S, hr, he, q⟩ => eLc_r ⟨c, ρ, S, hr, he, (Aft.st hr he q).mono fun v c1 S1 H1 x1 h1 u hu => h1 c1 _ H1 (Nx.refl x1.rel) ((he.keep hr x1).set hu i)⟩
end
end DL
namespace DL
open PySem PySem.Spec PyProof.Rows L2
structure Kl (a : Addr) (H H' : Hp) : Prop where
  ne : ∀ b, b ≠ a → H' b = H b
  rd : ∀ kvs, Rd H a (.dK kvs) → Rd H' a (.dK kvs)
  nt : ∀ vs, H a ≠ some (.tup vs)
  nl : ∀ vs, H a ≠ some (.lst vs)
  nf : ∀ o vs, H a ≠ some (.frz o (.lst vs))
  nx : ∀ φ, H a ≠ some (.ext φ)
  ny : ∀ fs, H a ≠ some (.xd fs)
section
variable {A : Addr → Prop} {a : Addr} {H H' : Hp}
mutual
theorem Rep.lk (k : Kl a H H') : ∀ (d : D) (v : V), Rep A H d v → Rep A H' d v
  | .none, _, h => by cases h; exact .non
  | .bool _, _, h => by cases h; exact .bl _
  | .int _, _, h => by cases h; exact .int _
  | .str _, _, h => by cases h; exact .str _
  | .tuple ds, _, h => by
    cases h with
    | tup h hl r => exact .tup (by rw [k.ne _ fun z => k.nt _ (by rw [← z]; exact h)]; exact h) hl (RepL.lk k ds _ r)
  | .list ds, _, h => by
    cases h with
    | lst n h hl r => exact .lst n (by rw [k.ne _ fun z => k.nl _ (by rw [← z]; exact h)]; exact h) hl (RepL.lk k ds _ r)
  | .dict ds, _, h => by
    cases h with
    | dic n h hl r =>
      rename_i b kvs
      refine .dic n ?_ hl (RepK.lk k ds _ r)
      by_cases z : b = a
      · subst z; exact k.rd _ h
      · rcases h with h | ⟨o, h⟩
        · exact .inl (by rw [k.ne _ z]; exact h)
        · exact .inr ⟨o, by rw [k.ne _ z]; exact h⟩
theorem RepL.lk (k : Kl a H H') : ∀ (ds : List D) (vs : List V), RepL A H ds vs → RepL A H' ds vs
  | [], _, h => by cases h; exact .nil
  | d :: ds, _, h => by
    cases h with
    | cons h1 h2 => exact .cons (Rep.lk k d _ h1) (RepL.lk k ds _ h2)
theorem RepK.lk (k : Kl a H H') : ∀ (ds : List (D × D)) (vs : List (Key × V)), RepK A H ds vs → RepK A H' ds vs
  | [], _, h => by cases h; exact .nil
  | (_, d) :: ds, _, h => by
    cases h with
    | cons h1 h2 => exact .cons (Rep.lk k d _ h1) (RepK.lk k ds _ h2)
end
theorem Kl.lock {o : Obj} {kvs : List (Key × V)} (h : H a = some (.dK kvs)) : Kl a H (upd H a (.frz o (.dK kvs))) :=
  ⟨fun b hb => upd_ne hb, (fun ks r => by
    rcases r with r | ⟨o', r⟩
    · rw [h] at r; cases r; exact .inr ⟨o, upd_same⟩
    · rw [h] at r; cases r), (fun _ z => by rw [h] at z; cases z), (fun _ z => by rw [h] at z; cases z), (fun _ _ z => by rw [h] at z; cases z), (fun _ z => by rw [h] at z; cases z), (fun _ z => by rw [h] at z; cases z)⟩
theorem Kl.unlock {o : Obj} {kvs : List (Key × V)} (h : H a = some (.frz o (.dK kvs))) : Kl a H (upd H a (.dK kvs)) :=
  ⟨fun b hb => upd_ne hb, (fun ks r => by
    rcases r with r | ⟨o', r⟩
    · rw [h] at r; cases r
    · rw [h] at r; cases r; exact .inl upd_same), (fun _ z => by rw [h] at z; cases z), (fun _ z => by rw [h] at z; cases z), (fun _ _ z => by rw [h] at z; cases z), (fun _ z => by rw [h] at z; cases z), (fun _ z => by rw [h] at z; cases z)⟩
theorem RepT.lk (k : Kl a H H') : ∀ {ds : List (List Key × D)} {vs : List (List Key × V)}, RepT A H ds vs → RepT A H' ds vs
  | _, _, .nil => .nil
  | _, _, .cons h t => .cons (Rep.lk k _ _ h) (RepT.lk k t)
variable {c : Cor Ω} {S : Sto} {ρ : Ev} {σ : L2.St}
theorem PRep.lk (k : Kl a H H') : ∀ {p : Pc} {u : V}, PRep c H p u → PRep c H' p u
  | .d _, _, h => Rep.lk k _ _ h
  | .loc _, _, h => h
theorem PRepL.lk (k : Kl a H H') : ∀ {ps : List Pc} {us : List V}, PRepL c H ps us → PRepL c H' ps us
  | _, _, .nil => .nil
  | _, _, .cons h t => .cons (h.lk k) (PRepL.lk k t)
theorem ORep.lk {b : Addr} (k : Kl a H H') (hb : b ≠ a) : ∀ {o : O}, ORep c H b o → ORep c H' b o
  | .lst _, ⟨vs, q1, q2, q3⟩ => ⟨vs, by rw [k.ne _ hb]; exact q1, q2, RepL.lk k _ _ q3⟩
  | .dic _, ⟨vs, q1, q2, q3⟩ => ⟨vs, by rw [k.ne _ hb]; exact q1, q2, RepK.lk k _ _ q3⟩
  | .lsp _, ⟨vs, q1, q2, q3⟩ => ⟨vs, by rw [k.ne _ hb]; exact q1, q2, q3.lk k⟩
  | .dct _, ⟨vs, q1, q2, q3⟩ => ⟨vs, by rw [k.ne _ hb]; exact q1, q2, q3.lk k⟩
  | .ins _ _, ⟨Ca, dx, vs, q0, q1, q2, q3⟩ => ⟨Ca, dx, vs, q0, by rw [k.ne _ hb]; exact q1, q2, q3.lk k⟩
theorem FRep.lk (k : Kl a H H') {A : Addr → Prop} {f : Option (Str × D)} {d : Option Addr} (h : FRep A f d H) : FRep A f d H' := by
  cases f with
  | none => exact h
  | some p =>
    obtain ⟨dd, v, e, n, h1, h2⟩ := h
    exact ⟨dd, v, e, n, by rw [k.ne _ fun z => k.ny _ (by rw [← z]; exact h1)]; exact h1, h2⟩
theorem VRep.lk (k : Kl a H H') : ∀ {v : Val} {u : V}, VRep c H v u → VRep c H' v u
  | .d _, _, h => Rep.lk k _ _ h
  | .loc _, _, h => h
  | .scr _, _, ⟨b, vs, h1, h2, h4, h5⟩ => ⟨b, vs, h1, h2.elim (fun z => .inl ⟨z.1, z.2.elim (fun h3 => .inl (by rw [k.ne _ fun z => k.nl vs (by rw [← z]; exact h3)]; exact h3)) (fun ⟨o, h3⟩ => .inr ⟨o, by rw [k.ne _ fun z => k.nf o vs (by rw [← z]; exact h3)]; exact h3⟩)⟩) .inr, h4, RepL.lk k _ _ h5⟩
  | .er _, _, ⟨b, C, h1, h2, h3, d, h4, h5⟩ => ⟨b, C, h1, h2, h3, d, by rw [k.ne _ fun z => k.nx _ (by rw [← z]; exact h4)]; exact h4, h5.lk k⟩
  | .tup _, _, ⟨b, us, h1, h2, h3, h4⟩ => ⟨b, us, h1, by rw [k.ne _ fun z => k.nt us (by rw [← z]; exact h2)]; exact h2, h3, h4.lk k⟩
theorem RepE.lk (k : Kl a H H') (e : RepE c H ρ σ) : RepE c H' ρ σ := ⟨e.len, fun i v h => let ⟨u, h1, h2⟩ := e.at' i v h; ⟨u, h1, h2.lk k⟩⟩
theorem Rel.lk (k : Kl a H H') (hn : ¬ c.A a) (nt' : ∀ vs, H' a ≠ some (.tup vs)) (r : Rel c S H) : Rel c S H' := by
  have ne : ∀ b, c.A b → b ≠ a := fun b h z => hn (z ▸ h)
  refine ⟨r.len, r.inj, fun n b o h1 h2 => ?_, fun b h => ?_, fun b vs h z => ?_⟩
  · obtain ⟨z1, z2⟩ := r.ob n b o h1 h2
    refine ⟨z1, ?_⟩
    exact z2.lk k (ne b z1)
  · obtain ⟨o, q⟩ := r.tr b h
    exact ⟨o, by rw [k.ne _ (ne b h)]; exact q⟩
  · rw [k.ne _ (ne b z)] at h; exact r.nt b vs h z
theorem Nx.unlk {c1 : Cor Ω} {S1 : Sto} {H1 : Hp} {o : Obj} {kvs : List (Key × V)} (hr : Rel c S H) (h : H a = some (.dK kvs)) (hn : ¬ c.A a) (x : Nx c S (upd H a (.frz o (.dK kvs))) c1 S1 H1) :
    H1 a = some (.frz o (.dK kvs)) ∧ Nx c S H c1 S1 (upd H1 a (.dK kvs)) := by
  have hl : ¬ live c S a := fun z => hn (hr.live z)
  have h1 : H1 a = some (.frz o (.dK kvs)) := x.fr a _ upd_same hl
  have hn1 : ¬ c1.A a := fun z => by
    rcases x.grow a z with z | z
    · exact hn z
    · rw [upd_same] at z; cases z
  refine ⟨h1, x.pre, fun b z => ?_, x.lock, Rel.lk (Kl.unlock h1) hn1 (fun vs z => by rw [upd_same] at z; cases z) x.rel, fun b q hb hlb => ?_, fun b z => ?_⟩
  · rcases x.grow b z with z | z
    · exact .inl z
    · by_cases e : b = a
      · subst e; rw [upd_same] at z; cases z
      · rw [upd_ne e] at z; exact .inr z
  · by_cases e : b = a
    · subst e; rw [h] at hb; cases hb; exact upd_same
    · rw [upd_ne e]; exact x.fr b q (by rw [upd_ne e]; exact hb) hlb
  · rcases x.lv b z with z | z
    · exact .inl z
    · by_cases e : b = a
      · subst e; rw [upd_same] at z; cases z
      · rw [upd_ne e] at z; exact .inr z
end
noncomputable def itKeys (i : Nat) : Iy := fun ρ S => match ρ[i]? with
  | some (some (.d (.dict kds))) => .ok (kds.map (·.1)) S
  | _ => .bad
noncomputable def lockedAt (i : Nat) (σ : L2.St) (H : Hp) : Prop := ∃ a o kvs, σ[i]? = some (some (.ref a)) ∧ H a = some (.frz o (.dK kvs))
noncomputable def tIk (Ω : PySem.W.Frag) (mg : Str → Option Value) (W : WX) (i : Nat) : TI := fun σ H R' => lockedAt i σ H ∧ tI Ω mg W (itKeys i) σ H R'
theorem RepK.keysV {A : Addr → Prop} {H : Hp} : ∀ {kds : List (D × D)} {kvs : List (Key × V)}, RepK A H kds kvs → ∀ {i : Nat} {k : Key} {v : V}, kvs[i]? = some (k, v) → (kds.map (·.1))[i]? = some (keyD k)
  | _, _, .nil, i, k, v, e => by simp at e
  | _, _, .cons h r, 0, k, v, e => by simp at e; obtain ⟨rfl, rfl⟩ := e; rfl
  | _, _, .cons h r, i + 1, k, v, e => by simpa using RepK.keysV r (i := i) (by simpa using e)
section
variable {X : Cx} {W : WX} {tg : Expr}
theorem pi_lk {e : Expr} {i : Nat} (h : PE X e (tVar i)) : PI X tg e (tIk X.K X.mg W i) := PI.imp (pi_keys h) fun σ H R' ⟨⟨a, o, kvs, h1, h2⟩, c, ρ, S, hr, he, q⟩ => by
  refine ⟨.ref a, h1, a, o, rfl, .inl ⟨kvs, h2, ?_⟩⟩
  unfold itKeys at q
  split at q
  · rename_i kds e1
    obtain ⟨u, g1, g2⟩ := he.at' i _ e1
    rw [h1] at g1; cases g1
    cases g2 with
    | dic n hd hl r =>
      rename_i kvs'
      have ek : kvs' = kvs := by
        rcases hd with hd | ⟨o', hd⟩
        · rw [h2] at hd; cases hd
        · rw [h2] at hd; cases hd; rfl
      subst ek
      refine q c H (Nx.refl hr) _ ⟨?_, by rw [List.length_map, r.length]; exact hl⟩
      rw [List.length_map, r.length]
      refine walk_keys.mono (fun H' g => g a _ h2 fun z => n (hr.live z)) fun j H1 x H2 hj hg y => ?_
      obtain ⟨rfl, k, v, hk, rfl⟩ := y
      exact ⟨keyD k, r.keysV hk, .inl rfl, fun A _ => rep_keyD k⟩
  · exact q.elim
theorem PS.or {st : Stmt} {t t' : TS} (h : PS X st t) (h' : PS X st t') : PS X st (fun D σ H => t D σ H ∨ t' D σ H) := ⟨fun pins s σ H D I hw => by
  rcases hw with hw | hw
  · exact h.run pins s σ H D I hw
  · exact h'.run pins s σ H D I hw⟩
theorem PE.or {e : Expr} {t t' : TE} (h : PE X e t) (h' : PE X e t') : PE X e (fun σ H Q => t σ H Q ∨ t' σ H Q) := ⟨fun pins s σ H D I hw => by
  rcases hw with hw | hw
  · exact h.run pins s σ H D I hw
  · exact h'.run pins s σ H D I hw⟩
noncomputable def eLcK (i : Nat) (vs : List Nat) (tg : Tg) (tt : Te) (fe : Ex) : Ex := fun ρ S => (eLc (itKeys i) vs tg tt fe ρ S).noX
theorem dict_at {c : Cor Ω} {S : Sto} {H : Hp} {ρ : Ev} {σ : L2.St} {i : Nat} {kds : List (D × D)} (he : RepE c H ρ σ) (e : ρ[i]? = some (some (.d (.dict kds)))) : ∃ a kvs, σ[i]? = some (some (.ref a)) ∧ ¬ c.A a ∧ Rd H a (.dK kvs) := by
  obtain ⟨u, g1, g2⟩ := he.at' i _ e
  cases g2 with
  | dic n hd hl r => exact ⟨_, _, g1, n, hd⟩
theorem se_lcK {e : Expr} {i : Nat} {vs : List Nat} {t : Tg} {tt : Te} {fe : Ex} (P : PE X e (tLc (tIk X.K X.mg W i) (tGw X.K vs t) (tT X.K X.mg W0 tt) (tE X.K X.mg W0 fe) vs)) : SE X W e (eLcK i vs t tt fe) := by
  refine PE.imp (PE.or (pe_lock P) P) fun σ H Q ⟨c, ρ, S, hr, he, q⟩ => ?_
  unfold eLcK at q
  have q0 := q
  unfold eLc cmp itKeys at q
  split at q
  · rename_i kds e1
    obtain ⟨a, kvs, h1, h2, h3⟩ := dict_at (S := S) he e1
    rcases h3 with h3 | ⟨o, h3⟩
    · refine .inl ⟨a, .dK kvs, h3, trivial, fun od => ⟨⟨a, od, kvs, h1, upd_same⟩, ?_⟩⟩
      have k := Kl.lock (o := od) h3
      refine (show tLc (tI X.K X.mg W (itKeys i)) (tGw X.K vs t) (tT X.K X.mg W0 tt) (tE X.K X.mg W0 fe) vs σ (upd H a (.frz od (.dK kvs))) (fun v H' => H' a = some (.frz od (.dK kvs)) ∧ Q v (upd H' a (.dK kvs))) from eLc_r ?_)
      refine ⟨c, ρ, S, Rel.lk k h2 (fun vs z => by rw [upd_same] at z; cases z) hr, he.lk k, ?_⟩
      revert q0
      generalize eLc (itKeys i) vs t tt fe ρ S = r
      intro q0
      cases r with
      | bad => exact q0
      | exc x S' => exact q0.elim
      | ok v S' => exact fun c' H' x u hu => let ⟨z1, z2⟩ := Nx.unlk hr h3 h2 x; ⟨z1, q0 c' _ z2 u (hu.lk (Kl.unlock z1))⟩
    · refine .inr ⟨⟨a, o, kvs, h1, h3⟩, (show tLc (tI X.K X.mg W (itKeys i)) (tGw X.K vs t) (tT X.K X.mg W0 tt) (tE X.K X.mg W0 fe) vs σ H Q from eLc_r ⟨c, ρ, S, hr, he, ?_⟩)⟩
      revert q0
      generalize eLc (itKeys i) vs t tt fe ρ S = r
      intro q0
      cases r with
      | bad => exact q0
      | exc x S' => exact q0.elim
      | ok v S' => exact q0
  · exact q.elim
end
section
variable {X : Cx} {W : WX} {pos : Pos}
theorem ss_raise {e : Expr} {C : Addr} {x : Str} (hc : X.calm = true) (tk : Takes X W) (hx : X.mg x = some (.ref C)) (h : PMk X e (fun _ H Q => Q (.ref C) none H)) : SS X W (.Raise (some e) none pos) (sRaise { cls := x }) :=
  PS.imp (ps_raise hc tk h) fun D σ H ⟨c, ρ, S, hr, he, q⟩ => q c σ H (.ref C) none (Nx.refl hr) he ⟨C, hx, rfl, rfl⟩
end
end DL
namespace DL
open PySem PySem.Spec PyProof.Rows L2
section
variable {X : Cx} {W : WX} {pos : Pos}
noncomputable def sPar (is : List Nat) (f : La) : Blk := fun ρ S => (f ρ S).st ρ fun vs S1 => if vs.length = is.length then .ok (.nx ((is.zip vs).foldl (fun r p => r.set p.1 (some p.2)) ρ)) S1 else .bad
theorem ss_par2 {i j : Nat} {f : La} {st : Stmt} (h : PS X st (tPar i j (tA X.K X.mg W f))) : SS X W st (sPar [i, j] f) := PS.imp h fun D σ H ⟨c, ρ, S, hr, he, q⟩ => by
  refine ⟨c, ρ, S, hr, he, (Aft.st hr he q).mono fun vs c1 S1 H1 x1 h1 us hus => ?_⟩
  split at h1
  · rename_i hl
    match vs, us, hus, hl with
    | [v, w], [x, y], .cons hv (.cons hw .nil), _ => exact ⟨x, y, rfl, h1 c1 _ H1 (Nx.refl x1.rel) (((he.keep hr x1).set hv i).set hw j)⟩
  · exact h1.elim
end
theorem rev_adjust (n : Nat) : Builtin.Slice.sliceAdjust none none (-1) (n : Int) = ((n : Int) - 1, -1) := by
  unfold Builtin.Slice.sliceAdjust
  simp
  try omega
theorem rev_places (n : Nat) : Builtin.Slice.slicePlaces ((n : Int) - 1) (-1) (-1) = n := by
  unfold Builtin.Slice.slicePlaces
  rw [if_neg (by decide)]
  by_cases h : (n : Int) - 1 > -1
  · rw [if_pos h]; show (((n : Int) - 1 - -1 - 1) / (- -1) + 1).toNat = n; simp; try omega
  · rw [if_neg h]; omega
theorem rev_pick (xs : Array Value) : ((List.range xs.size).filterMap fun (m : Nat) => xs[(((xs.size : Int) - 1) + (m : Int) * (-1)).toNat]?).toArray = xs.toList.reverse.toArray := by
  have e : (fun (m : Nat) => xs[(((xs.size : Int) - 1) + (m : Int) * (-1)).toNat]?) = fun (m : Nat) => xs[xs.size - 1 - m]? := by
    funext m
    have : (((xs.size : Int) - 1) + (m : Int) * (-1)).toNat = xs.size - 1 - m := by omega
    rw [this]
  have e2 : (List.range xs.size).filterMap (fun (m : Nat) => xs[xs.size - 1 - m]?) = ((List.range xs.size).map (fun k => xs.size - 1 - k)).filterMap (xs[·]?) := by
    rw [List.filterMap_map]; rfl
  rw [e, e2, PySem.W.krv_range, List.filterMap_reverse, PySem.W.krv_all]
theorem getItem_tuple_rev {prog : Program} {w : World} {A : Around} {E : Value → Shared → Prop} {s : Shared} {t sl : Addr} {items : Array Value} {vs : Value} {Q : Value → Shared → Prop} (ht : IsTup s.heap t items) (hs : s.heap.IsSliceOf sl .none .none vs) (ps : IsPart vs (some (-1)))
    (h : Q (.ref s.heap.objs.size) { s with heap := s.heap.push { cls := .type "tuple", data := .seq items.toList.reverse.toArray } })
    (hsz : items.size ≤ sizeLine) : wpAny (model prog w) A (getItem (.ref t) (.ref sl)) Q E s := by
  have htake : sizeOk (.seq items.toList.reverse.toArray) := by
    show items.toList.reverse.toArray.size ≤ sizeLine
    rw [List.size_toArray, List.length_reverse, Array.length_toList]
    exact hsz
  obtain ⟨os, hos, hcs, hds⟩ := id hs
  have hTs : s.TypeIs (.ref sl) "slice" := ⟨os, hos, hcs⟩
  unfold getItem
  try with_reducible refine wpAny_holding ?_
  first | refine wpAny_bind (wpAny_pure ?_) | skip
  refine wpAny_bind (wpAny_sequenceKey ht.typeIs (by decide) ?_)
  refine wpAny_bind (wpAny_callSpecial?_slot (name := Str.ofString "__getitem__") ht.typeIs PyProof.Rows.slot_tuple_getitem
    (wpAny_call_entry PyProof.Rows.slot_tuple_getitem ht.typeIs entry_tuple_getitem ?_ (args_tuple_getitem _ _)))
  show wpAny _ _ (Builtin.Tuple.tupleItemsOf (.ref t) >>= _) _ _ s
  refine wpAny_bind (tupleItemsOf_ ht ?_)
  refine wpAny_bind (wpAny_typeOf hTs ?_)
  rw [if_pos (by decide)]
  have ap : ∀ {Q : Int × Int × Nat → Shared → Prop}, Q ((items.size : Int) - 1, -1, items.size) s → wpAny (model prog w) A.in1 (Builtin.Slice.sliceApplied (.ref sl) (pure (items.size : Int))) Q E s := fun {Q} h => by
    unfold Builtin.Slice.sliceApplied Builtin.Slice.sliceFields
    refine wpAny_bind (wpAny_bind (wpAny_field hos hds (x := .none) rfl (wpAny_bind (wpAny_field hos hds (x := .none) rfl (wpAny_bind (wpAny_field hos hds (x := vs) rfl (wpAny_pure ?_)))))))
    refine wpAny_bind (HT.slicePart_ ps ?_)
    show wpAny _ _ (if ((-1 : Int) == 0) = true then _ else _) _ _ s
    rw [if_neg (by decide)]
    refine wpAny_bind (slicePart_none (wpAny_bind (slicePart_none (wpAny_bind (wpAny_pure ?_)))))
    show wpAny _ _ (match Builtin.Slice.sliceAdjust none none (-1) (items.size : Int) with | (lo, hi) => pure (lo, (-1 : Int), Builtin.Slice.slicePlaces lo hi (-1))) _ _ s
    rw [rev_adjust]
    show wpAny _ _ (pure ((items.size : Int) - 1, (-1 : Int), Builtin.Slice.slicePlaces ((items.size : Int) - 1) (-1) (-1))) _ _ s
    rw [rev_places]
    exact wpAny_pure h
  refine wpAny_bind (ap ?_)
  have hno : ¬ ((((items.size : Int) - 1) == 0 && (-1 : Int) == 1 && items.size == items.size) = true) := by
    intro q
    rw [Bool.and_eq_true, Bool.and_eq_true] at q
    exact absurd q.1.2 (by decide)
  show wpAny _ _ (if ((((items.size : Int) - 1) == 0 && (-1 : Int) == 1 && items.size == items.size) = true) then _ else _) _ _ s
  rw [if_neg hno, rev_pick]
  first
    | exact wpAny_bind (m := Builtin.Tuple.tupleExact _) (wpAny_newObj_type (wpAny_pure ⟨_, rfl, wpAny_pure h⟩) htake)
    | exact wpAny_bind (m := Builtin.Tuple.tupleExact _) (wpAny_newObj_type (wpAny_bind (wpAny_pure (wpAny_pure ⟨_, rfl, wpAny_pure h⟩))) htake)
    | exact wpAny_bind (wpAny_bind (m := Builtin.Tuple.tupleExact _) (wpAny_newObj_type (wpAny_pure (wpAny_pure ⟨_, rfl, wpAny_pure h⟩)) htake))
    | exact wpAny_bind (wpAny_bind (m := Builtin.Tuple.tupleExact _) (wpAny_newObj_type (wpAny_pure ⟨_, rfl, wpAny_pure h⟩) htake))
noncomputable def revD : D → Option D
  | .tuple xs => some (.tuple xs.reverse)
  | .list xs => some (.list xs.reverse)
  | _ => none
noncomputable def eRev (f : Ex) : Ex := fun ρ S => (f ρ S).bind fun v S1 => ofO ((lookR S1 v).bind revD) S1
section
variable {X : Cx} {W : WX}
noncomputable def tRevT (K : PySem.W.Frag) (te : TE) : TE := fun σ H Q => te σ H fun x H1 => ∃ a xs, x = .ref a ∧ SqT K H1 a xs ∧ ∀ p, H1 p = none → Q (.ref p) (upd H1 p (.tup xs.reverse))
theorem pe_revT {e : Expr} {te : TE} {k : Nat} {p1 p2 p3 pos : Pos} (he : PE X e te) : PE X (.Subscript e (.Slice none none (some (.UnaryOp .USub (.Constant (.int 1) k p1) p2)) p3) pos) (tRevT X.K te) := by
  refine ⟨fun pins s σ H Q I h => ?_⟩
  refine Subscript_ (thn (he.run pins s σ H _ I h) fun v s1 ⟨x, H1, I1, r1, q1⟩ => ?_)
  obtain ⟨a, xs, ex, hx, q⟩ := q1
  subst ex
  cases r1
  have hst : PO X (some (.UnaryOp .USub (.Constant (.int 1) k p1) p2)) (tPart (tUn (rU fun i => .int (-i)) (tC (.int 1)))) := po_some (pe_un un_neg pe_int)
  refine wpAny_Slice (thn (po_none.run pins s1 σ H1 (fun o H2 => o = none ∧ H2 = H1) I1 ⟨rfl, rfl⟩) fun vl s2 ⟨l, H2, I2, pl, el, e2⟩ => ?_)
  subst el e2
  refine thn (po_none.run pins s2 σ H2 (fun o H3 => o = none ∧ H3 = H2) I2 ⟨rfl, rfl⟩) fun vu s3 ⟨u, H3, I3, pu, eu, e3⟩ => ?_
  subst eu e3
  refine thn (hst.run pins s3 σ H3 (fun o H4 => o = some (-1) ∧ H4 = H3) I3 ⟨1, rfl, -1, rfl, rfl, rfl⟩) fun vs s4 ⟨o, H4, I4, ps, eo, e4⟩ => ?_
  subst eo e4
  cases pl
  cases pu
  have I5 : Inv X pins σ H4 { s4 with heap := s4.heap.push { cls := .type "slice", data := .fields #[.none, .none, vs] } } := I4.kept (t' := s4.toks) fun b ob q => Heap.get?_push_of_some _ q
  obtain ⟨its, r, ht, hz⟩ := I5.tuple hx
  have hlen := r.length
  show wpAny (model X.prog X.w) X.A (subscriptTail e (.Slice none none (some (.UnaryOp .USub (.Constant (.int 1) k p1) p2)) p3) (.ref a) (.ref s4.heap.objs.size)) (EP X pins σ Q) X.xe { s4 with heap := s4.heap.push { cls := .type "slice", data := .fields #[.none, .none, vs] } }
  refine tail_any (ops := [.ref a, .ref s4.heap.objs.size]) ht.typeIs (PyProof.Rows.slot_tuple_getitem.lookup) ?_ (by with_unfolding_all rfl)
  refine getItem_tuple_rev ht (Heap.IsSliceOf.new _ .none .none vs) ps ?_ (by rw [List.size_toArray]; omega)
  refine ⟨.ref _, _, I5.laid (t' := s4.toks) (o := .tup xs.reverse) (fun b ob q => Heap.get?_push_of_some _ q) (Nat.le_refl _) ?_, rfl, q _ (I5.hok.fresh (Nat.le_refl _))⟩
  exact ⟨by rw [List.length_reverse]; exact hz, _, r.reverse, IsTup.new _ _⟩
theorem se_rev {e : Expr} {f : Ex} {k : Nat} {p1 p2 p3 pos : Pos} (h : SE X W e f) : SE X W (.Subscript e (.Slice none none (some (.UnaryOp .USub (.Constant (.int 1) k p1) p2)) p3) pos) (eRev f) :=
  PE.imp (PE.or (pe_revL h) (pe_revT h)) fun σ H Q ⟨c, ρ, S, hr, he, q⟩ => by
    have q := Aft.bind hr q
    cases e1 : f ρ S with
    | exc x S' => exact .inl ⟨c, ρ, S, hr, he, by rw [e1] at q ⊢; exact q⟩
    | bad => rw [e1] at q; exact q.elim
    | ok v S1 =>
      rw [e1] at q
      cases e2 : lookR S1 v with
      | none => exact .inl ⟨c, ρ, S, hr, he, by rw [e1]; intro c1 H1 x1; have := q c1 H1 x1; simp only [e2] at this; exact this.elim⟩
      | some d =>
        cases e3 : revD d with
        | none => exact .inl ⟨c, ρ, S, hr, he, by rw [e1]; intro c1 H1 x1; have := q c1 H1 x1; simp only [e2, e3, Option.bind] at this; exact this.elim⟩
        | some r =>
          have q' : ∀ c1 H1, Nx c S H c1 S1 H1 → ∀ c' H', Nx c1 S1 H1 c' S1 H' → ∀ u, Rep c'.A H' r u → Q u H' := fun c1 H1 x1 c' H' x2 u hu => by
            have := q c1 H1 x1
            simp only [e2, e3, Option.bind] at this
            exact this c' H' x2 u hu
          unfold revD at e3
          split at e3
          · cases e3
            refine .inr ⟨c, ρ, S, hr, he, ?_⟩
            rw [e1]
            intro c1 H1 x1 u hu
            obtain ⟨a, vs, rfl, g1, g2, g3⟩ := ((lookR_rep x1.rel hu e2).plain (fun _ z => by cases z)).tup
            exact ⟨a, vs, rfl, SqT.of g1, fun p hp => q' c1 H1 x1 c1 _ (Nx.new x1.rel hp) _ (Rep.newTup x1.rel hp g3.reverse (by rw [List.length_reverse]; exact g2))⟩
          · cases e3
            refine .inl ⟨c, ρ, S, hr, he, ?_⟩
            rw [e1]
            intro c1 H1 x1 u hu
            obtain ⟨a, vs, rfl, g1, g2, g3⟩ := (lookR_rep x1.rel hu e2).list
            exact ⟨a, vs, rfl, g1, fun p hp => q' c1 H1 x1 c1 _ (Nx.new x1.rel hp) _ (Rep.newLst x1.rel hp g3.reverse (by rw [List.length_reverse]; exact g2))⟩
          · cases e3
end
end DL
namespace DL
open PySem PySem.Spec PyProof.Rows L2
noncomputable def spLaw (K : PySem.W.Frag) : Sp := fun vs H Q _ => ∃ (a : Addr) (ns : List Int), vs = [.ref a] ∧ SqL K H a (ns.map V.int) ∧ ns.length ≤ 63 ∧ ∀ H', Q (.bl true) H'
noncomputable def LawTrue (F : Fn) : Prop := ∀ ns : List Int, ns.length ≤ 63 → ∃ S, F [.scr (ns.map .int)] [] = .ok (.d (.bool true)) S
theorem rep_ints {A : Addr → Prop} {H : Hp} : ∀ ns : List Int, RepL A H (ns.map .int) (ns.map V.int)
  | [] => .nil
  | n :: ns => .cons (.int n) (rep_ints ns)
theorem law_fn {P : Program} {w : World} {K : PySem.W.Frag} {mg : Str → Option Value} {base : Heap} {CX : CXT} {k : Nat} {f : Addr} {fd : FuncData} {ps : List Str} {F : Fn} (h : LawTrue F) (G : FnOk P w K mg base CX k f fd ps (spG K mg 1 F)) : FnOk P w K mg base CX k f fd ps (spLaw K) := by
  refine G.imp fun vs H Q E ⟨a, ns, e, hS, hl, q⟩ => ?_
  subst e
  obtain ⟨S, hF⟩ := h ns hl
  have hz : (ns.map V.int).length ≤ sizeLine := by rw [List.length_map, sizeLine_eq]; omega
  refine ⟨⟨[], fun _ => False⟩, [], [.scr (ns.map .int)], ⟨rfl, fun n _ a _ _ h => by simp at h, fun n a o h => by simp at h, fun _ z => z.elim, fun _ _ _ z => z⟩, .cons ⟨a, _, rfl, ?_, hz, rep_ints ns⟩ .nil, rfl, ?_⟩
  · rcases hS with hS | hS
    · exact .inl ⟨fun z => z, hS⟩
    · exact .inr fun H' => .inr hS
  · rw [hF]
    intro c' H' u x hu
    cases hu
    exact q H'
theorem walk_law {l : PySem.W.OpenLaw} {q : Program} {loose : List Str} {XP : (Str → Option Value) → Heap → Prop} {YP : World → Heap → Prop} {d : DefRec} {K : Params → PySem.W.Frag} {k : Nat} {x : Str} (hn : l.most = some 63) (hdf : d.params.defaults = []) (hr : Room k callerA)
    (hY : ∀ (w : World) (h : Heap), YP w h → (K w.params).In h)
    (F : ∀ (w : World) (mg : Str → Option Value) (fa : Addr) (h : Heap), (K w.params).In h → h.Ns mainGlobals mg → mg d.name = some (.ref fa) →
      ∃ fd : FuncData, (∀ (s : Shared) (u : Value), BindsTo s fd ⟨[u], []⟩ [(x, u)]) ∧ ∀ base : Heap, (K w.params).In base → base.Ns mainGlobals mg → FnOk l.prog w (K w.params) mg base (L2.CX l.prog w) k fa fd [x] (spLaw (K w.params))) :
    PySem.W.WalkO q loose XP YP l.row.toRowW d [] (fun f vs => PySem.call f vs) :=
  L2.walk_of (n := 63) (k := k) (x := x) (CX := fun w => L2.CX l.prog w) (sp := fun w => spLaw (K w.params)) hn (by decide) hdf hr hY F (fun _ _ a ns hl _ hS => ⟨a, ns, rfl, hS, hl, fun _ => rfl⟩) fun _ _ _ _ _ z => by
    obtain ⟨_, _, _, _, _, _, _, _, _, _, _, _, z⟩ := z
    exact z
noncomputable def mTab (tab : List (Str × Bool)) : Str → Option Bool := fun y => tab.lookup y
theorem mTab_ok {K : PySem.W.Frag} {mg : Str → Option Value} {cv : Value} : ∀ {tab : List (Str × Bool)}, (∀ p ∈ tab, ∀ C, mg p.1 = some (.ref C) → PySem.W.exmOne K (.ref C) cv = some p.2) → ∀ y b C, mTab tab y = some b → mg y = some (.ref C) → PySem.W.exmOne K (.ref C) cv = some b
  | [], _, y, b, C, h, _ => by cases h
  | (x, k) :: tab, H, y, b, C, h, hm => by
    unfold mTab at h
    rw [List.lookup_cons] at h
    by_cases e : (y == x) = true
    · rw [e] at h
      cases h
      have e' : y = x := eq_of_beq e
      subst e'
      exact H (y, k) List.mem_cons_self C hm
    · have e' : (y == x) = false := by simpa using e
      rw [e'] at h
      exact mTab_ok (tab := tab) (fun p hp => H p (List.mem_cons_of_mem _ hp)) y b C h hm
theorem tab_one {K : PySem.W.Frag} {mg : Str → Option Value} {cv : Value} {x : Str} {b : Bool} {C0 : Addr} (hg : mg x = some (.ref C0)) (h : PySem.W.exmOne K (.ref C0) cv = some b) {tab : List (Str × Bool)} (ht : ∀ p ∈ tab, ∀ C, mg p.1 = some (.ref C) → PySem.W.exmOne K (.ref C) cv = some p.2) :
    ∀ p ∈ (x, b) :: tab, ∀ C, mg p.1 = some (.ref C) → PySem.W.exmOne K (.ref C) cv = some p.2 := fun p hp C hc => by
  rcases List.mem_cons.mp hp with rfl | hp
  · rw [hg] at hc; cases hc; exact h
  · exact ht p hp C hc
theorem tab_nil {K : PySem.W.Frag} {mg : Str → Option Value} {cv : Value} : ∀ p ∈ ([] : List (Str × Bool)), ∀ C, mg p.1 = some (.ref C) → PySem.W.exmOne K (.ref C) cv = some p.2 := fun p hp => by cases hp
theorem exm_sub {K : PySem.W.Frag} {S C : Addr} {b : Bool} (h1 : PySem.W.subIn K (.ref S) (.type "BaseException") = some true) (h2 : PySem.W.isClsIn K S = true) (h3 : PySem.W.typeIn K (.ref S) = some (.type "type")) (h4 : PySem.W.subIn K (.ref C) (.ref S) = some b) :
    PySem.W.exmOne K (.ref C) (.ref S) = some b := by
  have e1 : (PySem.W.subIn K (.ref S) (.type "BaseException") == some true) = true := by rw [h1] <;> rfl
  have e2 : ((PySem.W.clsIn K S).isSome && PySem.W.typeIn K (.ref S) == some (.type "type")) = true := by
    have h2' : (PySem.W.clsIn K S).isSome = true := h2
    rw [h2', h3] <;> rfl
  show (if (PySem.W.subIn K (.ref S) (.type "BaseException") == some true) = true then (if ((PySem.W.clsIn K S).isSome && PySem.W.typeIn K (.ref S) == some (.type "type")) = true then PySem.W.subIn K (.ref C) (.ref S) else none) else none) = some b
  rw [if_pos e1, if_pos e2]
  exact h4
structure ExcT (K : PySem.W.Frag) (mg : Str → Option Value) (x : Str) (C : Addr) : Prop where
  g : mg x = some (.ref C)
  x : PySem.W.excIn K C [.type "ValueError", .type "Exception", .type "BaseException", .type "object"] "ValueError.__new__" = true
  k : PySem.W.keepIn K (.ref C) = true
  b : PySem.W.subIn K (.ref C) (.type "BaseException") = some true
  t : PySem.W.typeIn K (.ref C) = some (.type "type")
  i : PySem.W.isClsIn K C = true
theorem ss_raiseT {X : Cx} {W : WX} {pos : Pos} {C : Addr} {x m : Str} {j : Nat} {p p2 p3 : Pos} (T : ExcT X.K X.mg x C) (hc : X.calm = true) (tk : Takes X W) (hg : Gl X x) (hdb : (x == ("__debug__" : Str)) = false := by decide) :
    SS X W (.Raise (some (.Call (.Name x p) [.Constant (.str m) j p2] [] p3)) none pos) (sRaise { cls := x }) :=
  ss_raise hc tk T.g (pmk_own PySem.F.excBase_ValueError T.x T.g T.k (raises_own T.b T.t) hg hdb)
noncomputable def fuelW : Nat := 100000
theorem sts_nil {X : Cx} : PTs X [] (tT X.K X.mg W0 tYesE) := ⟨fun pins s σ H Q I ⟨c, ρ, S, hr, he, q⟩ => pts_nil.run pins s σ H Q I (q c H (Nx.refl hr))⟩
theorem bt_len : bootBuiltins "len" = some (.builtin "len") := by decide +kernel
theorem bt_all : bootBuiltins "all" = some (.builtin "all") := by decide +kernel
theorem bt_sum : bootBuiltins "sum" = some (.builtin "sum") := by decide +kernel
theorem bt_abs : bootBuiltins "abs" = some (.builtin "abs") := by decide +kernel
theorem bt_min : bootBuiltins "min" = some (.builtin "min") := by decide +kernel
theorem bt_max : bootBuiltins "max" = some (.builtin "max") := by decide +kernel
theorem bt_divmod : bootBuiltins "divmod" = some (.builtin "divmod") := by decide +kernel
theorem bt_int : bootBuiltins "int" = some (.type "int") := by decide +kernel
theorem bt_str : bootBuiltins "str" = some (.type "str") := by decide +kernel
theorem bt_tuple : bootBuiltins "tuple" = some (.type "tuple") := by decide +kernel
theorem bt_bool : bootBuiltins "bool" = some (.type "bool") := by decide +kernel
end DL
namespace DL
open PySem PySem.Spec PyProof.Rows L2
theorem Nx.adopt {c1 c' : Cor Ω} {S1 Sf : Sto} {H1 H : Hp} {p : Addr} {o : HO} {q : O} (hr : Rel c1 S1 H1) (hp : H1 p = none) (x : Nx (lockC c1 p) S1 (upd H1 p o) c' Sf H) (nl : ¬ live c' Sf p) (hA : c'.A p) (ob : ORep c' H p q) :
    Nx c1 S1 H1 ⟨c'.m ++ [p], c'.A⟩ (Sf ++ [some q]) H := by
  have sp : ∀ {α : Type} (l : List α) (z : α) (n : Nat) (b : α), (l ++ [z])[n]? = some b → (l[n]? = some b ∧ n < l.length) ∨ (n = l.length ∧ z = b) := fun l z n b h => by
    rcases Nat.lt_trichotomy n l.length with q | q | q
    · rw [List.getElem?_append_left q] at h; exact .inl ⟨h, q⟩
    · subst q; simp at h; exact .inr ⟨rfl, h⟩
    · rw [List.getElem?_eq_none (by simp; omega)] at h; cases h
  have hlen := x.rel.len
  have two : ∀ (n : Nat) (a : Addr) (q' : O), (c'.m ++ [p])[n]? = some a → (Sf ++ [some q])[n]? = some (some q') → (c'.m[n]? = some a ∧ Sf[n]? = some (some q') ∧ a ≠ p) ∨ (n = c'.m.length ∧ a = p ∧ q' = q) := fun n a q' h1 h2 => by
    rcases sp _ _ _ _ h1 with ⟨h1, l1⟩ | ⟨l1, e1⟩
    · rcases sp _ _ _ _ h2 with ⟨h2, _⟩ | ⟨l2, _⟩
      · exact .inl ⟨h1, h2, fun e => nl ⟨n, q', by rw [← e]; exact h1, h2⟩⟩
      · omega
    · rcases sp _ _ _ _ h2 with ⟨_, l2⟩ | ⟨_, e2⟩
      · omega
      · exact .inr ⟨l1, e1.symm, (Option.some.inj e2).symm⟩
  refine ⟨x.pre.trans (List.prefix_append _ _), fun a h => ?_, fun a h l => x.lock a (.inl h) l, ⟨by simp [hlen], fun n n' a o1 o2 h1 h2 h3 h4 => ?_, fun n a q' h1 h2 => ?_, x.rel.tr, x.rel.nt⟩, fun a q' h l => x.fr a q' (by rw [upd_ne (ne_of_none h hp)]; exact h) l, fun a h => ?_⟩
  · rcases x.grow a h with (z | z) | z
    · exact .inl z
    · subst z; exact .inr hp
    · by_cases e : a = p
      · subst e; exact .inr hp
      · rw [upd_ne e] at z; exact .inr z
  · rcases two n a o1 h1 h3 with ⟨g1, g2, g3⟩ | ⟨g1, g2, g3⟩ <;> rcases two n' a o2 h2 h4 with ⟨k1, k2, k3⟩ | ⟨k1, k2, k3⟩
    · exact x.rel.inj n n' a o1 o2 g1 k1 g2 k2
    · exact absurd k2 g3
    · exact absurd g2 k3
    · omega
  · rcases two n a q' h1 h2 with ⟨g1, g2, g3⟩ | ⟨g1, rfl, rfl⟩
    · obtain ⟨z1, z2⟩ := x.rel.ob n a q' g1 g2
      exact ⟨z1, ORep.keep' (c := c') (c' := ⟨c'.m ++ [p], c'.A⟩) ⟨fun _ _ q => q, fun _ _ q _ => q, fun _ _ _ z => z⟩ (List.prefix_append _ _) (fun _ q => q) z2⟩
    · exact ⟨hA, ORep.keep' (c := c') (c' := ⟨c'.m ++ [a], c'.A⟩) ⟨fun _ _ q => q, fun _ _ q _ => q, fun _ _ _ z => z⟩ (List.prefix_append _ _) (fun _ q => q) ob⟩
  · obtain ⟨n, q', h1, h2⟩ := h
    rcases two n a q' h1 h2 with ⟨g1, g2, g3⟩ | ⟨g1, rfl, rfl⟩
    · rcases x.lv a ⟨n, q', g1, g2⟩ with z | z
      · exact .inl z
      · rw [upd_ne g3] at z; exact .inr z
    · exact .inr hp
noncomputable def eLcN (fi : Iy) (vs : List Nat) (tg : Tg) (tt : Te) (fe : Ex) : Ex := fun ρ S => (fi ρ S).bind fun ds S1 => match compL (item vs tg tt fe ρ) ds S1 with
  | .ok r S2 => .ok (.loc S2.length) (S2 ++ [some (.lst r)])
  | _ => .bad
section
variable {mg : Str → Option Value} {W : WX}
theorem eLcM_r {fi : Iy} {vs : List Nat} {tg : Tg} {tt : Te} {fe : Ex} {σ : L2.St} {H : Hp} {Q : VK} (h : tE Ω mg W (eLcN fi vs tg tt fe) σ H Q) : tLc (tI Ω mg W fi) (tGw Ω vs tg) (tT Ω mg W0 tt) (tE Ω mg W0 fe) vs σ H Q := by
  obtain ⟨c, ρ, S, hr, he, q⟩ := h
  refine ⟨c, ρ, S, hr, he, (Aft.bind hr q).mono fun ds c1 S1 H1 x1 h1 J wd => ?_⟩
  cases e : compL (item vs tg tt fe ρ) ds S1 with
  | bad => rw [e] at h1; exact h1.elim
  | exc x S' => exact (compL_noexc (fun d S x S' => item_noexc x S') ds S1 x S' e).elim
  | ok total Sf =>
    rw [e] at h1
    refine lc_run x1.rel (he.keep hr x1) wd e fun p c' H us hp x h2 h3 h4 h5 h6 => ?_
    have y := Nx.adopt (q := .lst total) x1.rel hp x h5 h6 ⟨us, h2, h4, h3⟩
    refine h1 _ H y _ ⟨p, ?_, rfl⟩
    rw [← x.rel.len]; simp
theorem ss_setLcM {X : Cx} {st : Stmt} {i : Nat} {fi : Iy} {vs : List Nat} {tg : Tg} {tt : Te} {fe : Ex} (h : PS X st (tAsg (tLc (tI X.K X.mg W fi) (tGw X.K vs tg) (tT X.K X.mg W0 tt) (tE X.K X.mg W0 fe) vs) (gName i))) : SS X W st (sSet i (eLcN fi vs tg tt fe)) :=
  PS.imp h fun D σ H ⟨c, ρ, S, hr, he, q⟩ => eLcM_r ⟨c, ρ, S, hr, he, (Aft.st hr he q).mono fun v c1 S1 H1 x1 h1 u hu => h1 c1 _ H1 (Nx.refl x1.rel) ((he.keep hr x1).set hu i)⟩
end
end DL
namespace DL
open PySem PySem.Spec PyProof.Rows L2 RZ
noncomputable def ItzM (K : PySem.W.Frag) (a b : Addr) : It :=
  ⟨fun i H => ∃ (xs ys : List V) (x y : V), SqT K H a xs ∧ SqL K H b ys ∧ xs[i]? = some x ∧ ys[i]? = some y,
    fun i H v H' => ∃ T x y, v = .ref T ∧ H T = none ∧ H' = upd H T (.tup [x, y]) ∧ (∀ xs, SqT K H a xs → xs[i]? = some x) ∧ ∀ ys, SqL K H b ys → ys[i]? = some y,
    fun i H => ∃ xs ys : List V, SqT K H a xs ∧ SqL K H b ys ∧ i ≤ xs.length ∧ i ≤ ys.length ∧ (i = xs.length ∨ i = ys.length)⟩
theorem turn_zipM {P : Program} {w : World} {K : PySem.W.Frag} {elts : List Expr} {kk : Nat} {tpos : Pos} {a b z TI TO i1 i2 : Addr} (D : PySem.ZipSep2 z TI TO i1 i2 [i1, a] [i2, b]) (hn1 : a ≠ i1) (hn2 : b ≠ i2) :
    Turn P w K (.Tuple elts kk tpos) (ItzM K a b) [z, TI, TO, i1, i2] z (fun i h => IsZip h z TI TO .none ∧ PySem.IsTupOf2 h TI (.ref i1) (.ref i2) ∧ (∃ x y, PySem.IsTupOf2 h TO x y) ∧ h.IsTupleIter i1 a i ∧ h.IsListIter i2 b i) where
  mem := by simp
  obj := fun i h st c hc => by
    obtain ⟨hz, hTI, ⟨x, y, hTO⟩, ⟨o1, e1, _, d1⟩, ⟨o2, e2, _, d2⟩⟩ := st
    have e' : c = z ∨ c = TI ∨ c = TO ∨ c = i1 ∨ c = i2 := by simpa using hc
    rcases e' with q | q | q | q | q
    · rw [q]; exact ⟨_, hz, fun v q => nomatch q⟩
    · rw [q]; exact ⟨_, hTI, fun v q => nomatch q⟩
    · rw [q]; exact ⟨_, hTO, fun v q => nomatch q⟩
    · rw [q]; exact ⟨o1, e1, fun v q => by rw [d1] at q; cases q⟩
    · rw [q]; exact ⟨o2, e2, fun v q => by rw [d2] at q; cases q⟩
  keep := fun i h h' st k => by
    obtain ⟨hz, hTI, ⟨x, y, hTO⟩, h1, h2⟩ := st
    exact ⟨k z (by simp) _ hz, k TI (by simp) _ hTI, ⟨x, y, k TO (by simp) _ hTO⟩, h1.at fun o q => k i1 (by simp) o q, h2.at fun o q => k i2 (by simp) o q⟩
  item := by
    intro X hP hw hK hc i pins s σ H E I hf st hg
    subst hP hw hK
    obtain ⟨hz, hTI, ⟨x0, y0, hTO⟩, h1, h2⟩ := st
    obtain ⟨xs, ys, x, y, hqx, hqy, hx, hy⟩ := hg
    obtain ⟨its, rv, p, _⟩ := I.tuple hqx
    obtain ⟨its2, rv2, p2, _⟩ := I.list hqy
    obtain ⟨u, hu, ru⟩ := rv.get hx
    obtain ⟨u2, hu2, ru2⟩ := rv2.get hy
    have hzl : z < s.heap.objs.size := Heap.lt_size hz
    have D1 := Draws.tuple (prog := X.prog) (w := X.w) (A := X.A.in1) (by simpa using I.ok.hd hc) i1 a hn1 its.toArray
    have D2 := Draws.list (prog := X.prog) (w := X.w) (A := X.A.in1) (by simpa using I.ok.hd hc) i2 b hn2 its2.toArray
    have hl1 : i < its.toArray.size := by have := (List.getElem?_eq_some_iff.mp hu).1; simpa using this
    have hl2 : i < its2.toArray.size := by have := (List.getElem?_eq_some_iff.mp hu2).1; simpa using this
    refine PySem.wpAny_pyNext_zipD2_item D D1 D2 hz hTI hTO ⟨h1, p⟩ ⟨h2, p2.isList⟩ hl1 hl2 fun x1 x2 h' tk hP1 hP2 z' TO' h1' h2' hT hsz hk => ?_
    have hx1 : x1 = u := by
      have h1 : its.toArray[i]? = some u := by simpa using hu
      exact Option.some.inj (hP1.symm.trans h1)
    have hx2 : x2 = u2 := by
      have h1 : its2.toArray[i]? = some u2 := by simpa using hu2
      exact Option.some.inj (hP2.symm.trans h1)
    subst hx1 hx2
    refine ⟨_, rfl, wpAny_letOwnedTupleGo_zip (s := { s with heap := h', toks := tk }) z' fun h'' z'' sb => ?_⟩
    have hT2 : h''.get? s.heap.objs.size = some { cls := .type "tuple", data := .seq #[x1, x2] } := (sb.2 _ (Nat.ne_of_gt hzl)).trans hT
    have new : ObjOk X.prog X.w (upd H s.heap.objs.size (.tup [x, y])) h'' s.heap.objs.size (.tup [x, y]) :=
      ⟨by show 2 ≤ sizeLine; decide, [x1, x2], .cons ru (.cons ru2 .nil), ⟨_, hT2, rfl, _, rfl⟩⟩
    have I1 : Inv X pins σ (upd H s.heap.objs.size (.tup [x, y])) { s with heap := h'', toks := tk } :=
      I.turnedNew (t' := tk) (ch := [z, TI, TO, i1, i2]) (fun c o hb q => (sb.2 c (fun q' => hb (by simp [q']))).trans (hk c o (fun q' => hb (by simp [q'])) (fun q' => hb (by simp [q'])) (fun q' => hb (by simp [q'])) (fun q' => hb (by simp [q'])) q)) hf (Nat.le_refl _) new
    refine ⟨.ref s.heap.objs.size, _, I1, rfl, ⟨_, x, y, rfl, I.hok.fresh (Nat.le_refl _), rfl, fun l hl => by rw [I.tuple_inj hl hqx]; exact hx, fun l hl => by rw [I.list_inj hl hqy]; exact hy⟩, ⟨z'', ?_, ⟨x1, x2, ?_⟩, ?_, ?_⟩, fun c hcm => ?_⟩
    · exact (sb.2 _ D.TIz).trans (hk _ _ D.TIz D.TITO D.TIi1 D.TIi2 hTI)
    · exact (sb.2 _ D.TOz).trans TO'
    · exact h1'.1.at fun o q => (sb.2 _ (Ne.symm D.zi1)).trans q
    · exact h2'.1.at fun o q => (sb.2 _ (Ne.symm D.zi2)).trans q
    · have hlt : c < s.heap.objs.size := by
        have e' : c = z ∨ c = TI ∨ c = TO ∨ c = i1 ∨ c = i2 := by simpa using hcm
        rcases e' with q | q | q | q | q
        · rw [q]; exact hzl
        · rw [q]; exact Heap.lt_size hTI
        · rw [q]; exact Heap.lt_size hTO
        · rw [q]; obtain ⟨_, e1, _⟩ := h1; exact Heap.lt_size e1
        · rw [q]; obtain ⟨_, e2, _⟩ := h2; exact Heap.lt_size e2
      rw [upd_ne (Nat.ne_of_lt hlt)]
      exact (hf c hcm).1
  done := by
    intro X hP hw hK hc i pins s σ H E I hf st hg
    subst hP hw hK
    obtain ⟨hz, hTI, ⟨x0, y0, hTO⟩, h1, h2⟩ := st
    obtain ⟨xs, ys, hqx, hqy, g1, g2, hend⟩ := hg
    obtain ⟨its, rv, p, _⟩ := I.tuple hqx
    obtain ⟨its2, rv2, p2, _⟩ := I.list hqy
    have l1 := rv.length
    have l2 := rv2.length
    have D1 := Draws.tuple (prog := X.prog) (w := X.w) (A := X.A.in1) (by simpa using I.ok.hd hc) i1 a hn1 its.toArray
    have D2 := Draws.list (prog := X.prog) (w := X.w) (A := X.A.in1) (by simpa using I.ok.hd hc) i2 b hn2 its2.toArray
    exact PySem.wpAny_pyNext_zipD2_end D D1 D2 hz hTI hTO ⟨h1, p⟩ ⟨h2, p2.isList⟩ (by simp; omega) (by simp; omega) (by simp; omega) fun h' tk hk => ⟨rfl, I.turnedL (t' := tk) (ch := [z, TI, TO, i1, i2]) (fun c o hb q =>
      hk c o (fun q' => hb (by simp [q'])) (fun q' => hb (by simp [q'])) (fun q' => hb (by simp [q'])) (fun q' => hb (by simp [q'])) q) hf⟩
  self := fun A i s Q E st h => wpAny_pyIter_zip st.1 h
theorem notin2 {x y z : Nat} (h1 : x ≠ y) (h2 : x ≠ z) : x ∉ [y, z] := by simp [h1, h2]
theorem zsep (n a b : Nat) (la : a < n) (lb : b < n) : PySem.ZipSep2 (n + 4) (n + 2) (n + 3) n (n + 1) [n, a] [n + 1, b] where
  TIz := show (n + 2 : Nat) ≠ n + 4 by omega
  TOz := show (n + 3 : Nat) ≠ n + 4 by omega
  TITO := show (n + 2 : Nat) ≠ n + 3 by omega
  TIi1 := show (n + 2 : Nat) ≠ n by omega
  mem1 := List.mem_cons_self
  zf1 := notin2 (by omega) (by omega)
  Tf1 := notin2 (by omega) (by omega)
  TIi2 := show (n + 2 : Nat) ≠ n + 1 by omega
  mem2 := List.mem_cons_self
  zf2 := notin2 (by omega) (by omega)
  Tf2 := notin2 (by omega) (by omega)
  sep1_2 := notin2 (by omega) (by omega)
  sep2_1 := notin2 (by omega) (by omega)
noncomputable def iZipM (K : PySem.W.Frag) (ta : TA) : TI := fun σ H R => ta σ H fun vs H1 => ∃ a b xs ys, vs = [.ref a, .ref b] ∧ SqT K H1 a xs ∧ SqL K H1 b ys ∧ R (ItzM K a b) H1
theorem pi_zipM {X : Cx} {e e2 : Expr} {ta : TA} {p pos tpos : Pos} {elts : List Expr} {kk : Nat} (hg : Gl X "zip") (hm : X.mg "zip" = none) (ha : PA X [e, e2] ta)
    (hs : starEach [e, e2] X.env = (false, eval e X.env) :: starEach [e2] X.env := by rfl) (hpl : (backTo pos (starEach [e2] X.env)).any (·.1) = false := by rfl) :
    PI X (.Tuple elts kk tpos) (.Call (.Name "zip" p) [e, e2] [] pos) (iZipM X.K ta) := by
  refine ⟨fun pins s σ H R I h => ?_⟩
  refine Call_ (ld_blt I hg hm PyProof.Rows.boot_zip (PyProof.Rows.callWith_type1 (thn (ha.run pos pins s σ H _ I h) fun us s1 ⟨vs, H1, I1, r1, q1⟩ => ?_) hs hpl))
  obtain ⟨a, b, xs, ys, ex, hqx, hqy, q⟩ := q1
  subst ex
  cases r1 with
  | cons r rr =>
    cases rr with
    | cons r' rr =>
      cases rr
      cases r
      cases r'
      have fresh5 : ∀ c, c ∈ [s1.heap.objs.size + 4, s1.heap.objs.size + 2, s1.heap.objs.size + 3, s1.heap.objs.size, s1.heap.objs.size + 1] → FpOk X pins H1 c := fun c hcm => by
        have e' : c = s1.heap.objs.size + 4 ∨ c = s1.heap.objs.size + 2 ∨ c = s1.heap.objs.size + 3 ∨ c = s1.heap.objs.size ∨ c = s1.heap.objs.size + 1 := by simpa using hcm
        have hle : s1.heap.objs.size ≤ c := by omega
        exact I1.fpOk hle (I1.hok.fresh hle)
      obtain ⟨its, rv, p1, _⟩ := I1.tuple hqx
      obtain ⟨its2, rv2, p2, _⟩ := I1.list hqy
      obtain ⟨o1, ho1, _⟩ := id p1
      have la : a < s1.heap.objs.size := Heap.lt_size ho1
      have lb : b < s1.heap.objs.size := p2.lt
      refine zip_begins2 (begins_tuple a its.toArray) (begins_list b its2.toArray) p1 p2.isList fun h' hz hTI hTO g1 g2 hsz hk => wpAny_pyIter_zip hz ?_
      have I2 : Inv X pins σ H1 { s1 with heap := h' } := I1.kept (t' := s1.toks) hk
      have sep : ∀ n a b : Nat, a < n → b < n → PySem.ZipSep2 (n + 4) (n + 2) (n + 3) n (n + 1) [n, a] [n + 1, b] := fun n a b la lb => zsep n a b la lb
      exact ⟨s1.heap.objs.size + 4, [s1.heap.objs.size + 4, s1.heap.objs.size + 2, s1.heap.objs.size + 3, s1.heap.objs.size, s1.heap.objs.size + 1], _, _, H1, rfl, I2, turn_zipM (sep _ a b la lb) (Nat.ne_of_lt la) (Nat.ne_of_lt (Nat.lt_succ_of_lt lb)), ⟨hz, hTI, ⟨_, _, hTO⟩, ⟨_, g1, rfl, rfl⟩, ⟨_, g2, rfl, rfl⟩⟩, fresh5, q⟩
theorem walk_zipT {K : PySem.W.Frag} {a b : Addr} {xs ys : List V} {n : Nat} (hn : n = min xs.length ys.length) : Walk (ItzT K a b) n (fun H => SqT K H a xs ∧ SqT K H b ys) (YPair (fun i => xs[i]?) (fun i => ys[i]?)) := by
  refine ⟨fun i _ hi q => ⟨xs, ys, xs[i], ys[i], q.1, q.2, by simp, by simp⟩, fun _ q => ⟨xs, ys, q.1, q.2, by omega⟩, fun i H v H' _ q y => ?_⟩
  obtain ⟨T, x, y, h1, h2, h3, h4, h5⟩ := y
  exact ⟨T, x, y, h1, h2, h3, h4 xs q.1, h5 ys q.2⟩
theorem walk_zipM {K : PySem.W.Frag} {a b : Addr} {xs ys : List V} {n : Nat} (hn : n = min xs.length ys.length) : Walk (ItzM K a b) n (fun H => SqT K H a xs ∧ SqL K H b ys) (YPair (fun i => xs[i]?) (fun i => ys[i]?)) := by
  refine ⟨fun i _ hi q => ⟨xs, ys, xs[i], ys[i], q.1, q.2, by simp, by simp⟩, fun _ q => ⟨xs, ys, q.1, q.2, by omega, by omega, by omega⟩, fun i H v H' _ q y => ?_⟩
  obtain ⟨T, x, y, h1, h2, h3, h4, h5⟩ := y
  exact ⟨T, x, y, h1, h2, h3, h4 xs q.1, h5 ys q.2⟩
noncomputable def itZipX (f : La) : Iy := fun ρ S => (f ρ S).bind fun vs S1 => match vs with
  | [.d (.list ds), .d (.list es)] => .ok (zipD ds es) S1
  | [.d (.tuple ds), .d (.tuple es)] => .ok (zipD ds es) S1
  | [.d (.tuple ds), .d (.list es)] => .ok (zipD ds es) S1
  | _ => .bad
theorem zipD_get {ds es : List D} {i : Nat} {d e : D} (h1 : ds[i]? = some d) (h2 : es[i]? = some e) : (zipD ds es)[i]? = some (.tuple [d, e]) := by
  simp [zipD, List.getElem?_zipWith, h1, h2]
theorem zipD_len (ds es : List D) : (zipD ds es).length = min ds.length es.length := by simp [zipD]
theorem si_zip {X : Cx} {W : WX} {e e2 : Expr} {f : La} {p pos tpos : Pos} {elts : List Expr} {kk : Nat} (hg : Gl X "zip") (hm : X.mg "zip" = none) (ha : SA X W [e, e2] f)
    (hs : starEach [e, e2] X.env = (false, eval e X.env) :: starEach [e2] X.env := by rfl) (hpl : (backTo pos (starEach [e2] X.env)).any (·.1) = false := by rfl) :
    SI X W (.Tuple elts kk tpos) (.Call (.Name "zip" p) [e, e2] [] pos) (itZipX f) := PI.imp (PI.or (pi_zipA hg hm ha hs hpl) (pi_zipM hg hm ha hs hpl)) fun σ H R' ⟨c, ρ, S, hr, he, q⟩ => by
  unfold itZipX at q
  have q := Aft.bind hr q
  cases e1 : f ρ S with
  | exc x S' => exact .inl ⟨c, ρ, S, hr, he, by rw [e1] at q ⊢; exact q⟩
  | bad => rw [e1] at q; exact q.elim
  | ok vs S1 =>
    rw [e1] at q
    have q : ∀ c' H', Nx c S H c' S1 H' → Aft X.mg W c' S1 σ H' _ _ := q
    by_cases k1 : ∃ ds es, vs = [.d (.list ds), .d (.list es)]
    · obtain ⟨ds, es, rfl⟩ := k1
      refine .inl ⟨c, ρ, S, hr, he, ?_⟩
      rw [e1]
      intro c1 H1 x1 us hus
      cases hus with
      | cons hu t =>
        cases t with
        | cons hu2 t =>
          cases t
          cases hu with
          | lst n h1 h2 h3 =>
            cases hu2 with
            | lst n' k1 k2 k3 =>
              refine ⟨_, _, _, _, rfl, .inl ⟨SqL.of h1, SqL.of k1, q c1 H1 x1 c1 H1 (Nx.refl x1.rel) _ (wd_pair x1.rel (by rw [zipD_len, h3.length]; omega) (walk_zip (by rw [zipD_len, h3.length, k3.length])) (fun H' g => ⟨SqL.of (g _ _ h1 fun z => n (x1.rel.live z)), SqL.of (g _ _ k1 fun z => n' (x1.rel.live z))⟩) fun i x y hi hx hy => ?_)⟩⟩
              obtain ⟨d, h4, h5⟩ := h3.getV hx
              obtain ⟨d', h6, h7⟩ := k3.getV hy
              exact ⟨d, d', zipD_get h4 h6, h5, h7⟩
    · by_cases k2 : ∃ ds es, vs = [.d (.tuple ds), .d (.tuple es)]
      · obtain ⟨ds, es, rfl⟩ := k2
        refine .inl ⟨c, ρ, S, hr, he, ?_⟩
        rw [e1]
        intro c1 H1 x1 us hus
        cases hus with
        | cons hu t =>
          cases t with
          | cons hu2 t =>
            cases t
            cases hu with
            | tup h1 h2 h3 =>
              cases hu2 with
              | tup k1 k2 k3 =>
                refine ⟨_, _, _, _, rfl, .inr ⟨SqT.of h1, SqT.of k1, q c1 H1 x1 c1 H1 (Nx.refl x1.rel) _ (wd_pair x1.rel (by rw [zipD_len, h3.length]; omega) (walk_zipT (by rw [zipD_len, h3.length, k3.length])) (fun H' g => ⟨SqT.of (g _ _ h1 fun z => x1.rel.nt _ _ h1 (x1.rel.live z)), SqT.of (g _ _ k1 fun z => x1.rel.nt _ _ k1 (x1.rel.live z))⟩) fun i x y hi hx hy => ?_)⟩⟩
                obtain ⟨d, h4, h5⟩ := h3.getV hx
                obtain ⟨d', h6, h7⟩ := k3.getV hy
                exact ⟨d, d', zipD_get h4 h6, h5, h7⟩
      · by_cases k3 : ∃ ds es, vs = [.d (.tuple ds), .d (.list es)]
        · obtain ⟨ds, es, rfl⟩ := k3
          refine .inr ⟨c, ρ, S, hr, he, ?_⟩
          rw [e1]
          intro c1 H1 x1 us hus
          cases hus with
          | cons hu t =>
            cases t with
            | cons hu2 t =>
              cases t
              cases hu with
              | tup h1 h2 h3 =>
                cases hu2 with
                | lst n' k1 k2 k3 =>
                  refine ⟨_, _, _, _, rfl, SqT.of h1, SqL.of k1, q c1 H1 x1 c1 H1 (Nx.refl x1.rel) _ (wd_pair x1.rel (by rw [zipD_len, h3.length]; omega) (walk_zipM (by rw [zipD_len, h3.length, k3.length])) (fun H' g => ⟨SqT.of (g _ _ h1 fun z => x1.rel.nt _ _ h1 (x1.rel.live z)), SqL.of (g _ _ k1 fun z => n' (x1.rel.live z))⟩) fun i x y hi hx hy => ?_)⟩
                  obtain ⟨d, h4, h5⟩ := h3.getV hx
                  obtain ⟨d', h6, h7⟩ := k3.getV hy
                  exact ⟨d, d', zipD_get h4 h6, h5, h7⟩
        · refine .inl ⟨c, ρ, S, hr, he, ?_⟩
          rw [e1]
          intro c1 H1 x1
          have q2 := q c1 H1 x1
          exfalso
          revert q2
          split
          · exact absurd ⟨_, _, rfl⟩ k1
          · exact absurd ⟨_, _, rfl⟩ k2
          · exact absurd ⟨_, _, rfl⟩ k3
          · exact fun z => z
end DL
namespace DL
open PySem PySem.Spec PyProof.Rows L2
theorem RepL.erase {A : Addr → Prop} {H : Hp} : ∀ {ds : List D} {vs : List V} (n : Nat), RepL A H ds vs → RepL A H (ds.eraseIdx n) (vs.eraseIdx n)
  | _, _, _, .nil => by simp; exact .nil
  | _, _, 0, .cons _ r => r
  | _, _, n + 1, .cons h r => .cons h (RepL.erase n r)
end DL
namespace DL
open PySem PySem.Spec PyProof.Rows L2
section
variable {X : Cx} {W : WX} {p p2 pos pos2 : Pos} {a b : Expr} {fa fb : Ex}
end
theorem RepL.rep {A : Addr → Prop} {H : Hp} {ds : List D} {vs : List V} (h : RepL A H ds vs) : ∀ n : Nat, RepL A H (List.replicate n ds).flatten (List.replicate n vs).flatten
  | 0 => .nil
  | n + 1 => by rw [List.replicate_succ, List.replicate_succ, List.flatten_cons, List.flatten_cons]; exact h.append (RepL.rep h n)
theorem len_rep {α : Type} (xs : List α) : ∀ n : Nat, (List.replicate n xs).flatten.length = xs.length * n
  | 0 => by simp
  | n + 1 => by rw [List.replicate_succ, List.flatten_cons, List.length_append, len_rep xs n, Nat.mul_succ]; omega
end DL
namespace DL
open PySem PySem.Spec PyProof.Rows L2
section
variable {prog : Program} {w : World} {A : Around} {E : Value → Shared → Prop} {s : Shared} {l : Addr} {xs : Array (Int × Tok)} {its : List Value} {ns : List Int} {Q : Value → Shared → Prop}
end
section
variable {X : Cx}
end
noncomputable def stepD (lo c : Int) (n : Nat) : List D := (List.range n).map fun i => .int (lo + (i : Nat) * c)
noncomputable def rgI3 (i j c : Int) : Option (List D) := if -1000000 ≤ i ∧ i ≤ 1000000 ∧ -1000000 ≤ j ∧ j ≤ 1000000 ∧ (1 ≤ c ∨ c = -1) ∧ c ≤ 1000 then some (stepD i c (Builtin.Range.rangeSize i j c).toNat) else none
noncomputable def itR3p (f : La) : Iy := fun ρ S => (f ρ S).bind fun vs S1 => match vs with
  | [.d (.int i), .d (.int j), .d (.int c)] => ofL (rgI3 i j c) S1
  | _ => .bad
theorem stepD_get {lo c : Int} {n i : Nat} (h : i < n) : (stepD lo c n)[i]? = some (.int (lo + (i : Nat) * c)) := by simp [stepD, h]
theorem stepD_length (lo c : Int) (n : Nat) : (stepD lo c n).length = n := by simp [stepD]
theorem wd_step {Ω : PySem.W.Frag} {c0 : Cor Ω} {S : Sto} {H : Hp} {lo c : Int} {n : Nat} (hl : n ≤ sizeLine) : WD c0 S H (stepD lo c n) (Itc lo c n) := by
  refine ⟨?_, by rw [stepD_length]; exact hl⟩
  rw [stepD_length]
  refine (walk_rangeC (lo := lo) (c := c) (n := n)).mono (fun _ _ => trivial) fun i H1 x H2 hi _ y => ?_
  obtain ⟨rfl, rfl⟩ := y
  exact ⟨_, stepD_get hi, .inl rfl, fun A _ => .int _⟩
theorem size_of (i j c : Int) (h : 1 ≤ c) : 0 ≤ Builtin.Range.rangeSize i j c ∧ Builtin.Range.rangeSize i j c ≤ (j - i).toNat := by
  unfold Builtin.Range.rangeSize
  rw [if_pos (by omega)]
  split
  · have h1 := Int.ediv_nonneg (a := j - i - 1) (b := c) (by omega) (by omega)
    have h2 := Int.ediv_le_self c (show (0 : Int) ≤ j - i - 1 by omega)
    omega
  · omega
theorem size_neg (i j : Int) : Builtin.Range.rangeSize i j (-1) = ((i - j).toNat : Int) := by
  unfold Builtin.Range.rangeSize
  rw [if_neg (by omega)]
  split
  · rw [show (- (-1) : Int) = 1 from rfl, Int.ediv_one]; omega
  · omega
theorem rgI3_some {i j c : Int} {l : List D} (h : rgI3 i j c = some l) : RgC i j c (Builtin.Range.rangeSize i j c).toNat ∧ (Builtin.Range.rangeSize i j c).toNat ≤ sizeLine ∧ l = stepD i c (Builtin.Range.rangeSize i j c).toNat := by
  unfold rgI3 at h
  split at h
  · rename_i hc
    rcases hc.2.2.2.2.1 with c1 | c1
    · obtain ⟨s0, s1⟩ := size_of i j c c1
      refine ⟨⟨by omega, by omega, ?_, by omega⟩, by rw [sizeLine_eq]; omega, (Option.some.inj h).symm⟩
      unfold Builtin.Range.small Builtin.Range.rangeFitsLong
      simp only [Bool.and_eq_true, Bool.or_eq_true, decide_eq_true_eq, beq_iff_eq]
      refine ⟨⟨⟨⟨by omega, by omega⟩, by omega⟩, by omega⟩, .inr ?_⟩
      rw [if_pos (by omega)]
      simp only [Bool.and_eq_true, decide_eq_true_eq]
      omega
    · subst c1
      have s2 := size_neg i j
      refine ⟨⟨by omega, by omega, ?_, by omega⟩, by rw [sizeLine_eq]; omega, (Option.some.inj h).symm⟩
      unfold Builtin.Range.small Builtin.Range.rangeFitsLong
      simp only [Bool.and_eq_true, Bool.or_eq_true, decide_eq_true_eq, beq_iff_eq]
      refine ⟨⟨⟨⟨by omega, by omega⟩, by omega⟩, by omega⟩, .inr ?_⟩
      rw [if_neg (by omega)]
      simp only [Bool.and_eq_true, decide_eq_true_eq]
      omega
  · cases h
section
variable {X : Cx} {W : WX} {tg : Expr}
theorem si_range3 {a b c : Expr} {f : La} {p pos : Pos} (hg : Gl X "range") (hm : X.mg "range" = none) (ha : SA X W [a, b, c] f)
    (hs : starEach [a, b, c] X.env = (false, eval a X.env) :: starEach [b, c] X.env := by rfl) (hpl : (backTo pos (starEach [b, c] X.env)).any (·.1) = false := by rfl) :
    SI X W tg (.Call (.Name "range" p) [a, b, c] [] pos) (itR3p f) :=
  PI.imp (pi_range3 hg hm ha hs hpl) fun σ H R' ⟨c, ρ, S, hr, he, q⟩ => by
    refine ⟨c, ρ, S, hr, he, (Aft.bind hr q).mono fun vs c1 S1 H1 x1 h1 us hus => ?_⟩
    split at h1
    · rename_i i j k
      cases hus with
      | cons h t =>
        cases t with
        | cons h' t =>
          cases t with
          | cons h'' t =>
            cases t; cases h; cases h'; cases h''
            cases e : rgI3 i j k with
            | none => rw [e] at h1; exact h1.elim
            | some l =>
              rw [e] at h1
              obtain ⟨hb, hl, rfl⟩ := rgI3_some e
              exact ⟨i, j, k, _, rfl, hb, h1 c1 H1 (Nx.refl x1.rel) _ (wd_step hl)⟩
    · exact h1.elim
end
end DL
namespace DL
open PySem PySem.Spec PyProof.Rows L2
section
variable {X : Cx}
end
end DL
namespace DLX
open PySem PySem.Spec PySem.Calls PyProof.Rows PySem.W
section
variable {prog : Program} {w : World} {A : Around} {E : Value → Shared → Prop} {s : Shared} {K : Frag} {e D : Addr} {oe : Obj} {oD : Option Obj}
end
end DLX
namespace DL
open PySem PySem.Spec PyProof.Rows L2
noncomputable def ErAt (H : Hp) (a D : Addr) : Prop := ∃ d, H a = some (ExC (.ref D) d a) ∧ (d = none ∨ ∃ dd fs, d = some dd ∧ H dd = some (.xd fs))
theorem FRep.er {A : Addr → Prop} {f : Option (Str × D)} {d : Option Addr} {H : Hp} (h : FRep A f d H) : d = none ∨ ∃ dd fs, d = some dd ∧ H dd = some (.xd fs) := by
  cases f with
  | none => exact .inl h
  | some p =>
    obtain ⟨dd, v, e, _, h1, _⟩ := h
    exact .inr ⟨dd, _, e, h1⟩
theorem ErAt.upd {H : Hp} {a D tp : Addr} {o : HO} (h : ErAt H a D) (n : H tp = none) : ErAt (L2.upd H tp o) a D := by
  obtain ⟨d, h1, h2⟩ := h
  refine ⟨d, by rw [upd_ne (fun z => by rw [z, n] at h1; cases h1)]; exact h1, h2.imp id fun ⟨dd, fs, e, q⟩ => ⟨dd, fs, e, by rw [upd_ne (fun z => by rw [z, n] at q; cases q)]; exact q⟩⟩
section
variable {X : Cx} {pins : List (Addr × Obj)} {σ : L2.St} {H : Hp} {s : Shared}
end
end DL
namespace DL
open PySem PySem.Spec PyProof.Rows L2
section
variable {X : Cx} {pins : List (Addr × Obj)} {σ : L2.St} {H : Hp} {s : Shared}
theorem inv_track {a : Addr} {o : HO} (I : Inv X pins σ H s) (hn : H a = none) (h0 : X.s_0.heap.get? a = none) (nL : a ≠ X.env.locals) (nC : ∀ x c, X.env.cells.lookup x = some c → a ≠ c) (nP : ∀ p ∈ X.pn ++ pins, p.1 ≠ a) (new : ObjOk X.prog X.w (upd H a o) s.heap a o) : Inv X pins σ (upd H a o) s where
  ok := I.ok
  os := I.os
  bare := I.bare
  base := ⟨I.base.keep, I.base.slot, fun b u e n x => by rw [upd_ne fun z => by rw [z, h0] at e; cases e]; exact I.base.free b u e n x, I.base.there,
    fun b xs e => by have q := I.base.tups b xs e; rw [upd_ne (ne_of_none q hn)]; exact q,
    fun b u xs e => by have q := I.base.frzs b u xs e; rw [upd_ne (ne_of_none q hn)]; exact q,
    fun b ps e => by obtain ⟨m, q⟩ := I.base.tbls b ps e; exact ⟨m, by rw [upd_ne (ne_of_none q hn)]; exact q⟩⟩
  loc := I.loc
  cell := I.cell
  free := by rw [upd_ne (Ne.symm nL)]; exact I.free
  freeC := fun x c e => by rw [upd_ne (Ne.symm (nC x c e))]; exact I.freeC x c e
  pin := fun p hp => by
    obtain ⟨a1, a2, a3⟩ := I.pin p hp
    exact ⟨a1, by rw [upd_ne (nP p hp)]; exact a2, a3⟩
  hok := I.hok.laidN (fun _ _ e => e) hn new
  len := I.len
theorem inv_suite {a : Addr} (I : Inv X pins σ H s) : Inv (X.suite a (X.pn ++ pins)) [] σ H s :=
  ⟨I.ok.suite _ _, I.os, I.bare, I.base, I.loc, I.cell, I.free, I.freeC, fun p hp => I.pin p (by rw [List.append_nil] at hp; exact hp), I.hok, I.len⟩
theorem inv_unsuite {a : Addr} {pn' : List (Addr × Obj)} (I : Inv (X.suite a (X.pn ++ pins)) pn' σ H s) (ok : X.Ok) : Inv X pins σ H s :=
  ⟨ok, I.os, I.bare, I.base, I.loc, I.cell, I.free, I.freeC, fun p hp => I.pin p (List.mem_append_left _ hp), I.hok, I.len⟩
end
noncomputable def dAs (i : Nat) (D : Ends) : Ends := { nx := fun σ' H' => D.nx (σ'.set i none) H', rt := D.rt, bk := fun σ' H' => D.bk (σ'.set i none) H', ct := fun σ' H' => D.ct (σ'.set i none) H' }
noncomputable def wAsT (K : PySem.W.Frag) (c : Value) (i : Nat) (ts : TS) (Wout : WX) (D : Ends) : WX := fun cls d σ H =>
  ∃ b, PySem.W.exmOne K cls c = some b ∧ (b = true → ∀ a, H a = none → ts (dAs i D) (σ.set i (some (.ref a))) (upd H a (ExC cls d a))) ∧ (b = false → Wout cls d σ H)
section
variable {X : Cx} {x n : Str} {c : Value} {i : Nat} {body suite : List Stmt} {b₀ : Stmt} {np pos pos' : Pos} {tb : WX → TS} {ts : TS} {Wout : WX}
theorem ps_try_noted (hs : X.stack = X.env :: X.outer) (hf : X.env.frame = some X.env.locals) (hN : X.N.Nodup) (hi : X.N[i]? = some n) (hln : X.env.kindOf n = some .local) (hc : Names X x c) (hex : X.ex = []) (tk : Takes X Wout)
    (hb : ∀ (W : WX) (pn : List (Addr × Obj)) (xe : Value → Shared → Prop), Takes (X.tr pn xe) W → PassesOwn (model X.prog X.w) X.A X.env xe → PSs (X.tr pn xe) body (tb W))
    (hsu : ∀ (a : Addr) (pn : List (Addr × Obj)), PSs (X.suite a pn) (b₀ :: suite) ts) :
    PS X (.Try body [.ExceptHandler (some (.Name x np)) (some n) (b₀ :: suite) pos'] [] [] pos) (fun D σ H => tb (wAsT X.K c i ts Wout D) D σ H) := by
  refine ⟨fun pins s σ H D I h => ?_⟩
  have ok := I.ok
  have hfr : X.A.frames = some (X.env :: X.outer) := by rw [ok.frames, hs]
  refine wpAny_Try_except (wpAny_mono ((hb (wAsT X.K c i ts Wout D) (X.pn ++ pins) (fun e s₁ => wpAny (model X.prog X.w) X.A (noteFrame e X.env) (fun _ s₂ => wpAny (model X.prog X.w) X.A (setFlight e none) (fun _ s₃ =>
    wpAny (model X.prog X.w) X.A (handleBy e X.env [.ExceptHandler (some (.Name x np)) (some n) (b₀ :: suite) pos']) (SP X pins D) X.xe s₃) X.xe s₂) X.xe s₁) (fun u s' xx => ?_) PassesOwn.looking).run [] s σ H D (I.toTry _) h) (fun f s1 hsp => ?_) (fun e s1 he => he))
  · obtain ⟨a, B, sI, pins', σ', H', cls, d, rfl, J', nb, up, sky, na, os, ag, b, hb1, hyes, hno⟩ := xx
    have J : Inv X pins σ' H' sI := J'.ofTry ok
    show wpAny (model X.prog X.w) X.A (noteFrame (.ref a) X.env) _ _ _
    refine Sky.land Zc.steady hfr hf (by rw [← hs]; exact sky) fun h3 fl3 up3 => ?_
    have J3 : Inv X pins σ' H' { s' with heap := h3 } := J.landed nb fl3.1 (up.trans up3) os ag
    obtain ⟨oe3, vs3, he3, hz3, hd3⟩ := fl3.there
    -- the exception is no frame, and was not there at the entry
    have far : ∀ b' o', sI.heap.get? b' = some o' → b' ∉ frs X.stack → b' ≠ a := fun b' o' e' nf z => by
      have := nb b' o' e' nf
      rw [z, fl3.2.1] at this; cases this
    have nfr : a ∉ frs X.stack := fun hm => by
      rw [hs] at hm
      obtain ⟨_, o', e', hnf⟩ := fl3.2.2.1.mem hm
      rw [he3] at e'; cases e'
      exact hnf _ hd3
    have nL : a ≠ X.env.locals := fun z => nfr (by rw [hs]; exact List.mem_filterMap.mpr ⟨X.env, List.mem_cons_self, by rw [hf, z]⟩)
    have nX : a ∉ X.ex → X.s_0.heap.get? a = none := fun nx => by
      cases q : X.s_0.heap.get? a with
      | none => rfl
      | some o' =>
        obtain ⟨o2, e2⟩ := J.base.there a o' q nx
        exact absurd rfl (far a o2 e2 nfr)
    refine wpAny_handleBy_cons (codeAny_handlers_test ?_) (by intro q; cases q)
    have LT : PySem.W.Looks (model X.prog X.w) h3 (typeOf (.ref a)) cls := fun A Q E s k q => wpAny_typeOf_ref (k _ _ he3) (by rw [hz3.1]; exact q)
    have LM := PySem.W.exm_one (M := model X.prog X.w) (J3.kIn) LT hb1
    have test : ∀ {Q : Value → Shared → Prop} {E : Value → Shared → Prop}, Q c { s' with heap := h3 } → wpAny (model X.prog X.w) (X.A.mark (some (.ref a))) (eval (.Name x np) X.env) Q E { s' with heap := h3 } := fun {Q E} q => by
      obtain ⟨hg, hdbg, hm | ⟨hm, hv, hnn⟩⟩ := hc
      · exact ld_glob (X := X.suite a (X.pn ++ pins)) (inv_suite J3) hg hm q hdbg
      · exact ld_blt (X := X.suite a (X.pn ++ pins)) (inv_suite J3) hg hm hv q hnn hdbg
    refine test (LM.here ?_)
    cases b with
    | true =>
      refine codeAny_handlers_suite_as (HandSPX.lands_againZ fl3 fun h4 fl4 up4 => ?_)
      have J4 : Inv X pins σ' H' { s' with heap := h4 } := J.landed nb fl4.1 ((up.trans up3).trans up4) os ag
      obtain ⟨oe4, vs4, he4, hz4, hd4⟩ := fl4.there
      have T4 : Inv X pins σ' (upd H' a (ExC cls d a)) { s' with heap := h4 } := inv_track J4 na (nX (by rw [hex]; simp)) nL (fun y c' e z => by
        obtain ⟨w, o, e1, e2⟩ := J4.cell y c' e
        rw [← z] at e1
        rw [show h4.get? a = some o from e1] at he4
        cases he4
        rw [e2] at hd4; cases hd4) (fun p hp => by
        obtain ⟨e1, _, e3, e4, _⟩ := J.pin p hp
        refine far p.1 p.2 e1 fun hm => ?_
        rw [hs] at hm
        obtain ⟨v, hv, q⟩ := List.mem_filterMap.mp hm
        rcases List.mem_cons.mp hv with rfl | hv
        · rw [hf] at q; injection q with q; exact e3 q.symm
        · exact e4 (List.mem_filterMap.mpr ⟨v, hv, q⟩)) ⟨⟨oe4, vs4, he4, hz4, hd4⟩, ⟨oe4, he4⟩, fun _ _ ⟨o, v, q, r⟩ k => ⟨o, v, k o q, r⟩⟩
      refine store_ok (X := X.suite a (X.pn ++ pins)) (v := .ref a) (inv_suite T4) hN hi (.inl hln) rfl (fun s5 S5 => ?_) (.inr hln)
      refine wpAny_mono ((hsu a (X.pn ++ pins)).run [] s5 _ _ _ S5 (hyes rfl a na)) (fun f s6 hsp => ?_) (fun _ _ z => False.elim z)
      cases f with
      | next =>
        obtain ⟨σ6, H6, S6, q6⟩ := hsp
        exact gone_ok (inv_unsuite S6 ok) hN hi hln fun s7 J7 => ⟨_, _, J7, q6⟩
      | brk =>
        obtain ⟨σ6, H6, S6, q6⟩ := hsp
        exact gone_ok (inv_unsuite S6 ok) hN hi hln fun s7 J7 => ⟨_, _, J7, q6⟩
      | cont =>
        obtain ⟨σ6, H6, S6, q6⟩ := hsp
        exact gone_ok (inv_unsuite S6 ok) hN hi hln fun s7 J7 => ⟨_, _, J7, q6⟩
      | ret u =>
        obtain ⟨v6, σ6, H6, S6, r6, q6⟩ := hsp
        exact gone_ok (inv_unsuite S6 ok) hN hi hln fun s7 J7 => ⟨_, _, _, J7, r6, q6⟩
    | false =>
      show wpAny _ X.A (handleBy (.ref a) X.env []) _ _ _
      refine wpAny_handleBy_nil ?_
      obtain ⟨k1, k2, k3, oe, vs, T, oT, ts', he, hz, hd, h1, hr⟩ := id fl3
      unfold PySem.passOn
      refine wpAny_bind (wpAny_field he hd h1 ?_)
      rw [if_neg (show ¬ ((Value.ref T == Value.none) = true) from by simp)]
      have fin : wpAny (model X.prog X.w) X.A (setFlight (.ref a) X.env.frame) (fun _ s4 => wpAny (model X.prog X.w) X.A (throw (.ref a) : Sem PySem.Flow) (SP X pins D) X.xe s4) X.xe { s' with heap := h3 } := by
        rw [hf]
        refine HandSPX.setFlight_upZ fl3 fun h4 hh4 up4 => wpAny_throw (tk _ _ ?_)
        exact ⟨a, B, sI, pins, σ', H', cls, d, rfl, J, nb, (up.trans up3).trans up4, .inr (.inr (by rw [hs]; exact hh4)), na, os, ag, hno rfl⟩
      first
        | exact wpAny_bind (wpAny_pure (wpAny_bind fin))
        | exact wpAny_bind fin
  · cases f with
    | next =>
      obtain ⟨σ', H', J', q⟩ := hsp
      exact wpAny_execs_nil ⟨σ', H', J'.ofTry ok, q⟩
    | brk =>
      obtain ⟨σ', H', J', q⟩ := hsp
      exact ⟨σ', H', J'.ofTry ok, q⟩
    | cont =>
      obtain ⟨σ', H', J', q⟩ := hsp
      exact ⟨σ', H', J'.ofTry ok, q⟩
    | ret u =>
      obtain ⟨v, σ', H', J', r, q⟩ := hsp
      exact ⟨v, σ', H', J'.ofTry ok, r, q⟩
end
noncomputable def unsetF (i : Nat) (r : R Flow) : R Flow := match r with
  | .ok (.nx ρ) S => .ok (.nx (ρ.set i none)) S
  | .ok (.bk ρ) S => .ok (.bk (ρ.set i none)) S
  | .ok (.ct ρ) S => .ok (.ct (ρ.set i none)) S
  | .ok (.ex _ _) _ => .bad
  | r => r
noncomputable def sTryE (m : Str → Option Bool) (i : Nat) (g h : Blk) : Blk := fun ρ S => match g ρ S with
  | .ok (.ex x ρ') S' => match m x.cls with
    | some true => unsetF i (h (ρ'.set i (some (.er x))) S')
    | some false => .ok (.ex x ρ') S'
    | none => .bad
  | r => r
theorem RepE.unset {Ω : PySem.W.Frag} {c : Cor Ω} {H : Hp} {ρ : Ev} {σ : L2.St} (e : RepE c H ρ σ) (i : Nat) : RepE c H (ρ.set i none) (σ.set i none) := by
  refine ⟨by simpa using e.len, fun j w hj => ?_⟩
  by_cases q : i = j
  · subst q
    by_cases hl : i < ρ.length
    · rw [List.getElem?_set_self hl] at hj; cases hj
    · rw [List.getElem?_eq_none (by simpa using hl)] at hj; cases hj
  · rw [List.getElem?_set_ne q] at hj
    obtain ⟨u, h1, h2⟩ := e.at' j w hj
    exact ⟨u, by rw [List.getElem?_set_ne q]; exact h1, h2⟩
section
variable {X : Cx} {W : WX} {pos : Pos}
theorem ss_tryE {x n : Str} {cv : Value} {i : Nat} {body suite : List Stmt} {b₀ : Stmt} {np pos' : Pos} {m : Str → Option Bool} {g h : Blk} (hs : X.stack = X.env :: X.outer) (hf : X.env.frame = some X.env.locals) (hN : X.N.Nodup) (hi : X.N[i]? = some n) (hln : X.env.kindOf n = some .local) (hc : Names X x cv) (hex : X.ex = []) (tk : Takes X W)
    (hm : ∀ y b C, m y = some b → X.mg y = some (.ref C) → PySem.W.exmOne X.K (.ref C) cv = some b)
    (hns : ∀ y C, m y = some true → X.mg y = some (.ref C) → PySem.W.nsIn X.K mainGlobals y = some (some (.ref C)))
    (hb : ∀ (W : WX) (pn : List (Addr × Obj)) (xe : Value → Shared → Prop), Takes (X.tr pn xe) W → PassesOwn (model X.prog X.w) X.A X.env xe → SSs (X.tr pn xe) W body g)
    (hsu : ∀ (a : Addr) (pn : List (Addr × Obj)), SSs (X.suite a pn) W0 (b₀ :: suite) h) :
    SS X W (.Try body [.ExceptHandler (some (.Name x np)) (some n) (b₀ :: suite) pos'] [] [] pos) (sTryE m i g h) :=
  PS.imp (ps_try_noted (tb := fun W => tS X.K X.mg W g) (ts := tS X.K X.mg W0 h) hs hf hN hi hln hc hex tk hb hsu) fun D σ H ⟨c, ρ, S, hr, he, q⟩ => by
    refine ⟨c, ρ, S, hr, he, ?_⟩
    unfold sTryE at q
    revert q
    cases g ρ S with
    | ok fl S' =>
      cases fl with
      | nx ρ' => exact fun q => q
      | bk ρ' => exact fun q => q
      | ct ρ' => exact fun q => q
      | rt v => exact fun q => q
      | ex y ρ' =>
        intro q c' σ' H' cls d x1 e1 hx
        obtain ⟨C, h1, rfl, hf⟩ := hx
        cases e : m y.cls with
        | none => simp only [e] at q; exact q.elim
        | some b =>
          refine ⟨b, hm y.cls b C e h1, fun hb a ha => ?_, fun hb => ?_⟩
          · subst hb
            simp only [e] at q
            have nw := Nx.new (o := ExC (.ref C) d a) x1.rel ha
            refine ⟨c', ρ'.set i (some (.er y)), S', nw.rel, (e1.keep x1.rel nw).set (v := .er y) ⟨a, C, rfl, (fun z => by obtain ⟨o, q⟩ := x1.rel.tr a z; rw [ha] at q; cases q), hns y.cls C e h1, d, upd_same, hf.keep (nw.kp x1.rel)⟩ i, ?_⟩
            have q1 := AftS.later hr (Nx.trans hr x1 nw) q
            revert q1
            cases h (ρ'.set i (some (.er y))) S' with
            | bad => exact fun q => q
            | exc _ _ => exact fun q => q
            | ok fl S2 =>
              cases fl with
              | ex _ _ => exact fun q => q.elim
              | nx ρ2 => exact fun q c2 σ2 H2 x2 e2 => q c2 _ H2 x2 (e2.unset i)
              | bk ρ2 => exact fun q c2 σ2 H2 x2 e2 => q c2 _ H2 x2 (e2.unset i)
              | ct ρ2 => exact fun q c2 σ2 H2 x2 e2 => q c2 _ H2 x2 (e2.unset i)
              | rt v => exact fun q => q
          · subst hb
            simp only [e] at q
            exact q c' σ' H' _ d x1 e1 ⟨C, h1, rfl, hf⟩
    | exc x S' => exact fun q => q
    | bad => exact fun q => q
end
section
variable {X : Cx} {W : WX}
end
end DL
namespace DL
open PySem PySem.Spec PyProof.Rows L2
section
variable {X : Cx} {W : WX}
end
end DL
namespace DL
open PySem PySem.Spec PyProof.Rows L2
section
variable {X : Cx} {W : WX} {pos : Pos}
end
structure ErT (K : PySem.W.Frag) (x : Str) (C : Addr) : Prop where
  n : PySem.W.nsIn K mainGlobals x = some (some (.ref C))
  c : ExcC K C
theorem mTab_mem : ∀ {tab : List (Str × Bool)} {y : Str} {b : Bool}, mTab tab y = some b → (y, b) ∈ tab
  | [], y, b, h => by cases h
  | (x, k) :: tab, y, b, h => by
    unfold mTab at h
    rw [List.lookup_cons] at h
    by_cases e : (y == x) = true
    · rw [e] at h
      cases h
      have e' : y = x := eq_of_beq e
      subst e'
      exact List.mem_cons_self
    · rw [Bool.eq_false_iff.mpr e] at h
      exact List.mem_cons_of_mem _ (mTab_mem (tab := tab) h)
section
variable {X : Cx} {W : WX}
structure PClsA (X : Cx) (es : List Expr) (cs : List V) (us : List Value) : Prop where
  a : PA X es (fun _ H Q => Q cs H)
  p : Paired ClsV cs us
  l : cs.length ≤ sizeLine
end
section
variable {X : Cx} {W : WX}
end
noncomputable def TabN (K : PySem.W.Frag) (mg : Str → Option Value) (tab : List (Str × Bool)) : Prop := ∀ p ∈ tab, ∀ C, mg p.1 = some (.ref C) → PySem.W.nsIn K mainGlobals p.1 = some (some (.ref C))
theorem tabN_nil {K : PySem.W.Frag} {mg : Str → Option Value} : TabN K mg [] := fun p hp => by cases hp
theorem tabN_one {K : PySem.W.Frag} {mg : Str → Option Value} {x : Str} {b : Bool} {C0 : Addr} (hg : mg x = some (.ref C0)) (T : ErT K x C0) {tab : List (Str × Bool)} (ht : TabN K mg tab) : TabN K mg ((x, b) :: tab) := fun p hp C hc => by
  rcases List.mem_cons.mp hp with rfl | hp
  · rw [hg] at hc; cases hc; exact T.n
  · exact ht p hp C hc
theorem tabN_ok {K : PySem.W.Frag} {mg : Str → Option Value} {tab : List (Str × Bool)} (ht : TabN K mg tab) : ∀ y C, mTab tab y = some true → mg y = some (.ref C) → PySem.W.nsIn K mainGlobals y = some (some (.ref C)) := fun y C e1 e2 => ht _ (mTab_mem e1) C e2
end DL
namespace L2
open PySem PySem.Spec PyProof.Rows
theorem tuple_mul1 (l : Addr) (items : Array Value) (n : Nat) (dd : Option Addr) (sl : Array (Option Value)) (x : Int) (u : Tok) (c0 : (decide (x < -(2 ^ 63)) || decide (x ≥ 2 ^ 63)) = false) (c1 : (items.isEmpty || x == 1) = true) :
    Meets (Builtin.«tuple.__mul__» ⟨[.ref l, .int x u], []⟩) (fun _ R s => s.heap.get? l = some { cls := .type "tuple", dict := dd, data := .seq items n, slots := sl } ∧ R (.ok (.ret (Value.ref l))) s) :=
  .of_wp fun prog w A R s h => by
    obtain ⟨hp, g, d, tk, os⟩ := s
    obtain ⟨hl, h⟩ := h
    have f1 := AutoSeq1.idx_int
    wp_walk using wpAny_loadPart' hl
    repeat (first
      | (refine wpAny_ite_false (decide_eq_false (by rw [c0]; exact Bool.false_ne_true)) ?_; wp_walk using wpAny_loadPart' hl)
      | (refine wpAny_ite_true (decide_eq_true (by rw [c1])) ?_; wp_walk using wpAny_loadPart' hl))
    exact ⟨_, rfl, h⟩
theorem tuple_mul0 (l : Addr) (items : Array Value) (n : Nat) (dd : Option Addr) (sl : Array (Option Value)) (x : Int) (u : Tok) (c0 : (decide (x < -(2 ^ 63)) || decide (x ≥ 2 ^ 63)) = false) (c1 : (items.isEmpty || x == 1) = false) (c2 : (decide (x ≤ 0) || items.isEmpty) = true) :
    Meets (Builtin.«tuple.__mul__» ⟨[.ref l, .int x u], []⟩) (fun _ R s => s.heap.get? l = some { cls := .type "tuple", dict := dd, data := .seq items n, slots := sl } ∧
      R (.ok (.ret (Value.ref s.heap.objs.size))) { s with heap := s.heap.push { cls := Value.type "tuple", data := Data.seq #[] }, toks := s.toks }) :=
  .of_wp fun prog w A R s h => by
    obtain ⟨hp, g, d, tk, os⟩ := s
    obtain ⟨hl, h⟩ := h
    have f1 := AutoSeq1.idx_int
    wp_walk using wpAny_loadPart' hl
    repeat (first
      | (refine wpAny_ite_false (decide_eq_false (by rw [c0]; exact Bool.false_ne_true)) ?_; wp_walk using wpAny_loadPart' hl)
      | (refine wpAny_ite_false (decide_eq_false (by rw [c1]; exact Bool.false_ne_true)) ?_; wp_walk using wpAny_loadPart' hl)
      | (refine wpAny_ite_true (decide_eq_true (by rw [c2])) ?_; wp_walk using wpAny_loadPart' hl))
    exact ⟨_, rfl, h⟩
end L2
namespace DL
open PySem PySem.Spec PyProof.Rows L2
noncomputable def repTD : D → D → Option D
  | .tuple xs, .int k => if -1000 ≤ k ∧ k ≤ 1000 ∧ xs.length ≤ 1000 then some (.tuple (List.replicate k.toNat xs).flatten) else none
  | _, _ => none
noncomputable def rRepA (K : PySem.W.Frag) : R2 := fun x y H Q => ∃ l k xs, x = .ref l ∧ y = .int k ∧ SqT K H l xs ∧ -1000 ≤ k ∧ k ≤ 1000 ∧ xs.length ≤ 1000 ∧ (k = 1 ∨ xs = [] → Q (.ref l) H) ∧ (k ≤ 0 → ∀ p, H p = none → Q (.ref p) (upd H p (.tup []))) ∧ (2 ≤ k → ∀ p, H p = none → Q (.ref p) (upd H p (.tup (List.replicate k.toNat xs).flatten)))
section
variable {X : Cx}
theorem op_repA : OpR X (binaryOp .Mult) (rRepA X.K) := by
  intro pins s σ H x y v u Q I rx ry h
  obtain ⟨l, k, xs, rfl, rfl, hT, h1, h2, hz, q1, q0, q2⟩ := h
  by_cases hk2 : xs ≠ [] ∧ 2 ≤ k
  · obtain ⟨hne, hk2⟩ := hk2
    exact op_repT pins s σ H _ _ v u Q I rx ry ⟨l, k, xs, rfl, rfl, hT, hne, hk2, h2, hz, q2 hk2⟩
  cases rx
  obtain ⟨t, rfl⟩ := ry
  obtain ⟨its, r, ⟨⟨cls, dd, data, sl⟩, ho, hc, n, hd⟩, hs⟩ := I.tuple hT
  simp only at hc hd
  subst hc hd
  have hle : its.length = xs.length := r.length.symm
  have c0 : (decide (k < -(2 ^ 63)) || decide (k ≥ 2 ^ 63)) = false := by
    rw [decide_eq_false (by omega), decide_eq_false (by omega)] <;> rfl
  by_cases hk1 : k = 1 ∨ xs = []
  · have c1 : (its.toArray.isEmpty || k == 1) = true := by
      rcases hk1 with rfl | e
      · simp
      · have : its = [] := List.eq_nil_of_length_eq_zero (by rw [hle, e]; rfl)
        subst this; rfl
    refine wpAny_binaryOp_repeat_ref (T := "tuple") (U := "int") (by decide) ⟨_, ho, rfl⟩ (fun s' => typeIs_int s' k t) noFill_tuple_mul F.fills_int_mul F.slot_int_rmul repeat_tuple F.slot_int_index.lookup
      (call_meets F.slot_int_rmul (typeIs_int s k t) F.entry_int_rmul (F.args_int_rmul_2 _ _) (int_rmul_tuple k t l its.toArray n dd sl)
        ⟨ho, rfl, ⟨_, ho, rfl⟩, call_meets F.slot_tuple_mul ⟨_, ho, rfl⟩ F.entry_tuple_mul (F.args_tuple_mul_2 _ _) (tuple_mul1 l its.toArray n dd sl k t c0 c1) ⟨ho, ?_⟩⟩)
    exact ⟨.ref l, H, I, rfl, q1 hk1⟩
  · have hn : its ≠ [] := fun e => hk1 (.inr (by
      rw [e] at hle
      exact List.eq_nil_of_length_eq_zero hle.symm))
    have hk0 : k ≤ 1 := by
      by_cases z : 2 ≤ k
      · exact absurd ⟨fun e => hk1 (.inr e), z⟩ hk2
      · omega
    have hk3 : k ≠ 1 := fun e => hk1 (.inl e)
    have hi : its.toArray.isEmpty = false := by
      cases its with
      | nil => exact absurd rfl hn
      | cons a b => rfl
    have c1 : (its.toArray.isEmpty || k == 1) = false := by
      rw [hi, Bool.false_or]
      exact beq_eq_false_iff_ne.mpr hk3
    have c2 : (decide (k ≤ 0) || its.toArray.isEmpty) = true := by
      rw [hi, Bool.or_false]
      exact decide_eq_true (by omega)
    refine wpAny_binaryOp_repeat_ref (T := "tuple") (U := "int") (by decide) ⟨_, ho, rfl⟩ (fun s' => typeIs_int s' k t) noFill_tuple_mul F.fills_int_mul F.slot_int_rmul repeat_tuple F.slot_int_index.lookup
      (call_meets F.slot_int_rmul (typeIs_int s k t) F.entry_int_rmul (F.args_int_rmul_2 _ _) (int_rmul_tuple k t l its.toArray n dd sl)
        ⟨ho, rfl, ⟨_, ho, rfl⟩, call_meets F.slot_tuple_mul ⟨_, ho, rfl⟩ F.entry_tuple_mul (F.args_tuple_mul_2 _ _) (tuple_mul0 l its.toArray n dd sl k t c0 c1 c2) ⟨ho, ?_⟩⟩)
    refine ⟨.ref s.heap.objs.size, _, I.laid (t' := s.toks) (o := .tup []) (fun b ob q => Heap.get?_push_of_some _ q) (Nat.le_refl _) ?_, rfl, q0 (by omega) _ (I.hok.fresh (Nat.le_refl _))⟩
    exact ⟨by simp, _, .nil, IsTup.new _ _⟩
theorem o_repTD : OpR X (binaryOp .Mult) (r2D X.K repTD) := OpR.imp op_repA fun x y H Q ⟨c, S, d, e, r, hr, hd, he, ho, q⟩ => by
  unfold repTD at ho
  split at ho
  · rename_i xs k
    split at ho
    · rename_i hf
      cases ho
      obtain ⟨a, vs, rfl, h1, h2, h3⟩ := hd.tup
      have hl := h3.length
      refine ⟨a, k, vs, rfl, he.int, SqT.of h1, hf.1, hf.2.1, by omega, fun hk => ?_, fun hk p hp => ?_, fun hk p hp => ?_⟩
      · have e1 : (List.replicate k.toNat xs).flatten = xs := by
          rcases hk with rfl | e
          · simp [List.replicate]
          · have : xs = [] := List.eq_nil_of_length_eq_zero (by rw [hl, e]; rfl)
            subst this; simp
        rw [e1] at q
        exact q c H _ (Nx.refl hr) (.tup h1 h2 h3)
      · have e1 : (List.replicate k.toNat xs).flatten = [] := by rw [show k.toNat = 0 by omega]; rfl
        rw [e1] at q
        exact q c _ _ (Nx.new hr hp) (Rep.newTup hr hp .nil (by simp))
      · have hz : (List.replicate k.toNat vs).flatten.length ≤ sizeLine := by
          rw [len_rep, sizeLine_eq]
          have a1 : vs.length * k.toNat ≤ 1000 * 1000 := Nat.mul_le_mul (by omega) (by omega)
          omega
        exact q c _ _ (Nx.new hr hp) (Rep.newTup hr hp (h3.rep _) hz)
    · cases ho
  · cases ho
end
end DL
namespace DL
open PySem PySem.Spec PyProof.Rows L2
section
variable {X : Cx} {W : WX}
end
end DL
namespace DL
open PySem PySem.Spec PyProof.Rows L2
structure WDK (K : PySem.W.Frag) (w : World) (a : Addr) (tab : List (Str × Int)) : Prop where
  at' : ∃ es n, K.lookup a = some ⟨.type "dict", none, .dict es n, #[]⟩ ∧ PySem.W.KeysLit w.params es.toList
  low : (a == sysModules) = false
  val : ∀ q ∈ tab, ∃ t, PySem.W.nsIn K a q.1 = some (some (.int q.2 t))
section
variable {X : Cx} {W : WX}
end
end DL
namespace DL
theorem lenP0 {α : Type} {P : List α → Prop} (us : List α) (hl : us.length = 0) (h : P []) : P us := by
  cases us with
  | nil => exact h
  | cons a r => cases hl
theorem lenP1 {α : Type} {P : List α → Prop} (us : List α) (hl : us.length = 1) (h : ∀ a1, P [a1]) : P us := by
  cases us with
  | nil => cases hl
  | cons a r => exact lenP0 (P := fun l => P (a :: l)) r (by simpa using hl) (h a)
theorem lenP2 {α : Type} {P : List α → Prop} (us : List α) (hl : us.length = 2) (h : ∀ a1 a2, P [a1, a2]) : P us := by
  cases us with
  | nil => cases hl
  | cons a r => exact lenP1 (P := fun l => P (a :: l)) r (by simpa using hl) (fun b1 => h a b1)
theorem lenP3 {α : Type} {P : List α → Prop} (us : List α) (hl : us.length = 3) (h : ∀ a1 a2 a3, P [a1, a2, a3]) : P us := by
  cases us with
  | nil => cases hl
  | cons a r => exact lenP2 (P := fun l => P (a :: l)) r (by simpa using hl) (fun b1 b2 => h a b1 b2)
theorem lenP4 {α : Type} {P : List α → Prop} (us : List α) (hl : us.length = 4) (h : ∀ a1 a2 a3 a4, P [a1, a2, a3, a4]) : P us := by
  cases us with
  | nil => cases hl
  | cons a r => exact lenP3 (P := fun l => P (a :: l)) r (by simpa using hl) (fun b1 b2 b3 => h a b1 b2 b3)
theorem lenP5 {α : Type} {P : List α → Prop} (us : List α) (hl : us.length = 5) (h : ∀ a1 a2 a3 a4 a5, P [a1, a2, a3, a4, a5]) : P us := by
  cases us with
  | nil => cases hl
  | cons a r => exact lenP4 (P := fun l => P (a :: l)) r (by simpa using hl) (fun b1 b2 b3 b4 => h a b1 b2 b3 b4)
end DL
namespace DL
open PySem PySem.Spec PyProof.Rows L2
structure CIni (K : PySem.W.Frag) (mg : Str → Option Value) (x : Str) (C : Addr) : Prop where
  g : mg x = some (.ref C)
  rd : PySem.W.readsIn K C (.type "type") = true
  ga : PySem.W.specialIn K (.ref C) "__getattribute__" = some (some (.builtin "type.__getattribute__"))
  vi : PySem.W.findCls K (.ref C) (.type "type") "__init__" = some (.val (.builtin "ValueError.__init__"))
structure OexT (K : PySem.W.Frag) (mg : Str → Option Value) (x : Str) (C fI : Addr) (f : Str) : Prop where
  g : mg x = some (.ref C)
  o : OexC K C
  iC : PySem.W.findIn K (.ref C) "__init__" = some (some (.ref fI))
  tI : PySem.W.typeIn K (.ref fI) = some (.type "function")
  no : PySem.W.findIn K (.ref C) f = some none
theorem oexC_of {K : PySem.W.Frag} {C : Addr} {nm q : Str} {N : Addr} {bs bm : List Value} {sn : List Str} {sub : List Value} {ab : Bool} {col : Option Bool} {dd : Option Addr} {k0 k1 k2 k3 k5 : Option Value}
    (l : K.lookup C = some (excClassObj nm q C N bs bm true sn sub ab col dd k0 k1 k2 k3 k5 "ValueError.__new__")) (rv : PySem.HandSPX.refsVE bm = true) (sa : PySem.W.findIn K (.ref C) "__setattr__" = some (some (.builtin "object.__setattr__")))
    (b : PySem.W.subIn K (.ref C) (.type "BaseException") = some true) (t : PySem.W.typeIn K (.ref C) = some (.type "type")) (k : PySem.W.keepIn K (.ref C) = true) : OexC K C :=
  ⟨⟨nm, q, N, bs, bm, sn, sub, ab, col, dd, k0, k1, k2, k3, k5, l, rv⟩, sa, b, t, k⟩
section
variable {X : Cx}
theorem pe_cinit {x : Str} {C : Addr} {e : Expr} {es : List Expr} {ta : TA} {p1 p2 pos : Pos} {pl : Sem Bool} (T : CIni X.K X.mg x C) (hg : Gl X x) (ha : PA X (e :: es) ta) (hdb : (x == ("__debug__" : Str)) = false := by decide)
    (hc : eval (.Call (.Attribute (.Name x p1) "__init__" p2) (e :: es) [] pos) X.env = (do
      let ov ← eval (.Name x p1) X.env; standAt p2.atName
      let (f, first) ← holding [ov] (getMethod ov "__init__" pl)
      callWith pos f first (backTo pos (starEach (e :: es) X.env)) (backToKw pos (keywordEach [] X.env))) := by rfl)
    (he : starEach (e :: es) X.env = (false, eval e X.env) :: starEach es X.env := by rfl) (hpl : (backTo pos (starEach es X.env)).any (·.1) = false := by rfl) :
    PE X (.Call (.Attribute (.Name x p1) "__init__" p2) (e :: es) [] pos) (tVeI X.K ta) := ⟨fun pins s σ H Q I h => by
  refine PySem.W.methodCall_KW (ld_glob I hg T.g ?_ hdb) hc
  refine PySem.W.method_cls I.kIn T.ga (PySem.W.cls_value I.kIn T.rd T.vi rfl ?_)
  show wpAny _ _ (callWith pos (Value.builtin "ValueError.__init__") [] (backTo pos (starEach (e :: es) X.env)) []) _ _ _
  refine PyProof.Rows.callWith_method1 (thn (ha.run pos pins _ σ H _ (I.tok _) h) fun us s1 ⟨vs, H1, I1, r1, a, D, ws, ev, hl, O, ea, q⟩ => ?_) he hpl
  subst ev
  cases r1 with
  | @cons _ u0 _ ur ra rw' =>
    obtain rfl : u0 = Value.ref a := ra
    exact oinit_ok O I1 ea (by rw [← Paired.length rw', sizeLine_eq]; omega) fun s' J => ⟨.non, H1, J, rfl, q⟩⟩
end
noncomputable def spXI (K : PySem.W.Frag) (f : Str) : Sp := fun vs H Q _ => ∃ (a C : Addr) (y : V), vs = [.ref a, y] ∧ OexC K C ∧ PySem.W.findIn K (.ref C) f = some none ∧ H a = some (exo a C none) ∧
  ∀ dx, H dx = none → dx ≠ a → Q .non (upd (upd H dx (exd dx [(f, y)])) a (exo a C (some dx)))
section
variable {P : Program} {w : World} {K : PySem.W.Frag} {mg : Str → Option Value} {base : Heap}
theorem ok_xinit {qual : Str} {st : Stmt} {fI : Addr} {fd : FuncData} {f m : Str} {k : Nat} (U : Fun K "__init__" qual st fI fd) (S : FnScope ["self", f] ["self", f] (defScope st))
    (hb : ∀ (cdv : Value) (A : Around) (outer : List Env) (s : Shared) (H : Hp) (E : XK), PSs (cxOf (L2.CX P w) P w K mg base ["self", f] qual (defScope st) fI cdv A outer s H E) (defBody st) (tSeq (tDrop (tVeI K (tCons (tVar 0) (tCons (tC (.str m)) tNil)))) (tOst K f (tVar 0) (tVar 1)))) :
    FnOk P w K mg base (L2.CX P w) (k + 1) fI fd ["self", f] (spXI K f) := by
  refine U.okX S (fun vs H Q E ⟨a, C, y, e, _⟩ => by rw [e]; rfl) fun cdv A outer s H vs Q E hr h => ⟨_, hb cdv A outer s H E, ?_⟩
  obtain ⟨a, C, y, rfl, O, no, ea, q⟩ := h
  refine ⟨.ref a, rfl, ?_⟩
  refine ⟨a, C, [.str m], rfl, Nat.le_of_ble_eq_true rfl, O, ea, ?_⟩
  refine ⟨y, rfl, .ref a, rfl, a, C, rfl, O, no, .inl ⟨ea, fun dx n ne => q dx n ne⟩⟩
end
noncomputable def sRaiseF (C f : Str) (fe : Ex) : Blk := fun ρ S => (fe ρ S).noX.st ρ fun v S1 => match v with
  | .d (.int i) => .ok (.ex { cls := C, fld := some (f, .int i) } ρ) S1
  | .d .none => .ok (.ex { cls := C, fld := some (f, .none) } ρ) S1
  | _ => .bad
noncomputable def eXF (tab : List Str) (f : Str) (fe : Ex) : Ex := fun ρ S => (fe ρ S).bind fun v S1 => match v with
  | .er x => if tab.contains x.cls then (match x.fld with
    | some p => if p.1 = f then .ok (.d p.2) S1 else .bad
    | none => .bad) else .bad
  | _ => .bad
theorem del_upd {H : Hp} {a d C : Addr} {o1 o2 o3 o4 : HO} (ha : H a = none) (hd : d ≠ a) : upd (del (upd (upd (upd H a o1) d o2) a o3) a) d o4 = upd H d o4 := by
  funext b
  by_cases h1 : b = d
  · subst h1; rw [upd_same, upd_same]
  · rw [upd_ne h1, upd_ne h1]
    by_cases h2 : b = a
    · subst h2; rw [del_same, ha]
    · rw [del_ne h2, upd_ne h2, upd_ne h1, upd_ne h2]
section
variable {X : Cx} {W : WX} {pos : Pos}
theorem ss_raiseF {e : Expr} {fe : Ex} {x f : Str} {C fI : Addr} {k : Nat} {fd : FuncData} {p p3 : Pos} (T : OexT X.K X.mg x C fI f) (F : FnOk X.prog X.w X.K X.mg X.base (L2.CX X.prog X.w) k fI fd ["self", f] (spXI X.K f)) (hr : Room (k + 1) X.A) (hb : Binds X.K fd ["self", f] [])
    (hc : X.calm = true) (tk : Takes X W) (hg : Gl X x) (he : SE X W e fe) (hdb : (x == ("__debug__" : Str)) = false := by decide) (hs : starEach [e] X.env = (false, eval e X.env) :: starEach [] X.env := by rfl) (hpl : (backTo p3 (starEach [] X.env)).any (·.1) = false := by rfl) :
    SS X W (.Raise (some (.Call (.Name x p) [e] [] p3)) none pos) (sRaiseF x f fe) :=
  PS.imp (ps_raise hc tk (pmk_oex (dvs := []) T.o T.iC T.tI F hr hb .nil (passes_call tk fun _ _ _ _ z => z.elim) hg T.g (pa_cons he pa_nil hs) hdb hs hpl)) fun Ds σ H ⟨c, ρ, S, hr, he, q⟩ => by
    refine ⟨c, ρ, S, hr, he, ?_⟩
    unfold sRaiseF at q
    revert q
    cases fe ρ S with
    | bad => exact fun q => q.elim
    | exc _ _ => exact fun q => q.elim
    | ok v S1 =>
      intro q c1 H1 x1 u hu
      refine ⟨by show 1 ≤ 1000; decide, fun a ha => ⟨a, C, u, rfl, T.o, T.no, upd_same, fun dx n ne => ⟨rfl, dx, [(f, u)], upd_same, by rw [upd_ne ne, upd_same], by rw [upd_ne ne] at n; exact n, ?_⟩⟩⟩
      have n1 : H1 dx = none := by rw [upd_ne ne] at n; exact n
      rw [del_upd (C := C) ha ne]
      have nw := Nx.new (o := HO.xd [(f, u)]) x1.rel n1
      have nA : ¬ c1.A dx := fun z => by obtain ⟨o, q⟩ := x1.rel.tr dx z; rw [n1] at q; cases q
      have key : ∀ d0 : PyData, PV d0 u → (∀ c' σ' H' cls d, Nx c S H c' S1 H' → RepE c' H' ρ σ' → XRep X.mg { cls := x, fld := some (f, d0) } c'.A cls d H' → W cls d σ' H') → W (.ref C) (some dx) σ (upd H1 dx (.xd [(f, u)])) := fun d0 pv q =>
        q c1 σ _ _ _ (x1.trans hr nw) ((he.keep hr x1).keep x1.rel nw) ⟨C, T.g, rfl, dx, u, rfl, nA, upd_same, pv⟩
      cases v with
      | d y =>
        cases y with
        | int i => cases (hu : Rep c1.A H1 (.int i) u); exact key (.int i) rfl q
        | none => cases (hu : Rep c1.A H1 .none u); exact key .none rfl q
        | _ => exact q.elim
      | _ => exact q.elim
end
section
variable {X : Cx} {W : WX} {pos : Pos}
structure XfT (K : PySem.W.Frag) (x f : Str) (C : Addr) : Prop where
  n : PySem.W.nsIn K mainGlobals x = some (some (.ref C))
  c : XfC K C
  no : PySem.W.findIn K (.ref C) f = some none
theorem pe_xfld {e : Expr} {te : TE} {f : Str} (he : PE X e te) (hb : attributeBase e f X.env (eval e X.env) = eval e X.env := by rfl) :
    PE X (.Attribute e f pos) (fun σ H Q => te σ H fun x H1 => ∃ (a C dd : Addr) (fs : List (Str × V)) (v : V), x = .ref a ∧ XfC X.K C ∧ PySem.W.findIn X.K (.ref C) f = some none ∧ H1 a = some (ExC (.ref C) (some dd) a) ∧ H1 dd = some (.xd fs) ∧ fs.lookup f = some v ∧ Q v H1) :=
  ⟨fun pins s σ H Q I h => attr_of hb (thn (he.run pins s σ H _ I h) fun u s1 ⟨x, H1, I1, rx, a, C, dd, fs, v, ex, T, no, ha, hd, l, q⟩ => by
    subst ex
    obtain rfl : u = Value.ref a := rx
    obtain ⟨⟨oe, vs, g1, ⟨g2, g3⟩, g4⟩, _⟩ := (show ObjOk X.prog X.w H1 s1.heap a (ExC (.ref C) (some dd) a) from I1.hok a _ ha)
    obtain ⟨mA, hns, hr⟩ := (show ObjOk X.prog X.w H1 s1.heap dd (.xd fs) from I1.hok dd _ hd)
    obtain ⟨od, ho, hl⟩ := lookIn_ns hns
    obtain ⟨z, hz, rz⟩ := RelO.some_of (v := v) (o := mA f) (by rw [← l]; exact hr f)
    have J : PySem.W.InstAt s1.heap a oe C (some od) := by
      obtain ⟨oc, odi, oda, osl⟩ := oe
      dsimp only at g2 g3 g4
      subst g2 g3 g4
      exact ⟨g1, rfl, rfl, ho⟩
    exact HandSPX.exc_get I1.kIn J T.ga T.gg T.exC (PySem.W.findObj_own T.hdC no rfl (by rw [hl, hz])) (handed_of rz) ⟨v, H1, I1.tok _, rz, q⟩)⟩
theorem xfT_nil {K : PySem.W.Frag} {f : Str} : ∀ y ∈ ([] : List Str), ∃ C, XfT K y f C := fun y hy => by cases hy
theorem xfT_cons {K : PySem.W.Frag} {f x : Str} {C : Addr} {tab : List Str} (T : XfT K x f C) (h : ∀ y ∈ tab, ∃ C, XfT K y f C) : ∀ y ∈ x :: tab, ∃ C, XfT K y f C := fun y hy => by
  rcases List.mem_cons.mp hy with rfl | hy
  · exact ⟨C, T⟩
  · exact h y hy
theorem se_xf {e : Expr} {fe : Ex} {f : Str} {tab : List Str} (ht : ∀ y ∈ tab, ∃ C, XfT X.K y f C) (he : SE X W e fe) (hb : attributeBase e f X.env (eval e X.env) = eval e X.env := by rfl) :
    SE X W (.Attribute e f pos) (eXF tab f fe) :=
  PE.imp (pe_xfld he hb) fun σ H Q ⟨c, ρ, S, hr, he, q⟩ => by
    refine ⟨c, ρ, S, hr, he, (Aft.bind hr q).mono fun v c1 S1 H1 x1 h1 w hw => ?_⟩
    cases v with
    | d _ => exact h1.elim
    | loc _ => exact h1.elim
    | scr _ => exact h1.elim
    | tup _ => exact h1.elim
    | er x =>
      obtain ⟨a, C, rfl, n1, n2, d, n3, n4⟩ := hw
      by_cases ct : tab.contains x.cls = true
      · simp only [ct, if_true] at h1
        obtain ⟨C', T⟩ := ht x.cls (List.contains_iff_mem.mp ct)
        have eC : C' = C := by have := T.n; rw [n2] at this; cases this; rfl
        subst eC
        cases ef : x.fld with
        | none => simp only [ef] at h1; exact h1.elim
        | some p =>
          simp only [ef] at h1 n4
          by_cases cf : p.1 = f
          · simp only [cf, if_true] at h1
            obtain ⟨dd, u, rfl, nA, hd, pv⟩ := n4
            refine ⟨a, C', dd, _, u, rfl, T.c, T.no, n3, hd, by rw [← cf]; simp [List.lookup], h1 c1 H1 (Nx.refl x1.rel) u ?_⟩
            cases e2 : p.2 <;> rw [e2] at pv <;> first | exact pv.elim | (cases pv; first | exact .int _ | exact .non)
          · simp only [cf, if_false] at h1; exact h1.elim
      · simp only [ct] at h1; exact h1.elim
end
end DL
namespace DL
open PySem PySem.Spec PyProof.Rows L2
noncomputable def splitD : D → D → Option D
  | .str x, .str y => if (y.length == 0) = false ∧ x.length + 2 ≤ sizeLine then some (.list ((Txt.split x y).map .str)) else none
  | _, _ => none
noncomputable def strsOf : List D → Option (List Str)
  | [] => some []
  | .str x :: r => (strsOf r).map (x :: ·)
  | _ :: _ => none
noncomputable def joinS (a : Str) (ys : List Str) : Option D := if (ys.map (·.length)).sum + ys.length * a.length ≤ 16777216 then some (.str (Txt.join a ys)) else none
noncomputable def joinD : D → D → Option D
  | .str a, .list ds => (strsOf ds).bind (joinS a)
  | .str a, .tuple ds => (strsOf ds).bind (joinS a)
  | _, _ => none
noncomputable def intSD : List D → Option D
  | [.str a] => if a.length ≤ 640 then (PySem.intText? a).map .int else none
  | _ => none
noncomputable def eSm (op : D → D → Option D) (fo fe : Ex) : Ex := fun ρ S => (fo ρ S).bind fun v S1 => match look S1 v with
  | some (.str _) => (fe ρ S1).bind fun w S2 => op2 op v w S2
  | _ => .bad
theorem RepL.strs {A : Addr → Prop} {H : Hp} : ∀ {ys : List Str}, RepL A H (ys.map .str) (ys.map V.str)
  | [] => .nil
  | y :: ys => .cons (.str _) RepL.strs
theorem strsOf_rep {A : Addr → Prop} {H : Hp} : ∀ {ds : List D} {vs : List V} {ys : List Str}, RepL A H ds vs → strsOf ds = some ys → vs = ys.map V.str
  | _, _, _, .nil, e => by cases e; rfl
  | _, _, ys, .cons (d := d) h t, e => by
    cases d with
    | str x =>
      unfold strsOf at e
      obtain ⟨zs, e1, rfl⟩ := Option.map_eq_some_iff.mp e
      cases h
      rw [strsOf_rep t e1]; rfl
    | _ => cases e
section
variable {X : Cx} {W : WX}
theorem mt_splitD : MtR X "str.split" (fun x xs H Q => ∃ y, xs = [y] ∧ r2D X.K splitD x y H Q) := by
  intro pins s σ H x xs v us Q I rx rxs h
  obtain ⟨y, rfl, c, S, d, e, r, hr, hd, he, ho, q⟩ := h
  unfold splitD at ho
  split at ho
  · split at ho
    · rename_i hc
      cases ho
      rw [hd.str] at rx
      rw [he.str] at rxs
      exact mt_split pins s σ H _ _ v us Q I rx rxs ⟨_, _, rfl, rfl, hc.1, hc.2, fun p hp => q c _ _ (Nx.new hr hp) (Rep.newLst hr hp RepL.strs (by
        rw [List.length_map]
        exact Nat.le_trans (PyProof.Rows.split_le _ _) hc.2))⟩
    · cases ho
  · cases ho
theorem mt_joinD : MtR X "str.join" (fun x xs H Q => ∃ y, xs = [y] ∧ r2D X.K joinD x y H Q) := by
  intro pins s σ H x xs v us Q I rx rxs h
  obtain ⟨y, rfl, c, S, d, e, r, hr, hd, he, ho, q⟩ := h
  unfold joinD at ho
  split at ho
  · obtain ⟨ys, e1, e2⟩ := Option.bind_eq_some_iff.mp ho
    unfold joinS at e2
    split at e2
    · rename_i hc
      cases e2
      rw [hd.str] at rx
      obtain ⟨a, vs, rfl, h1, h2, h3⟩ := he.list
      have := strsOf_rep h3 e1
      subst this
      exact mt_join pins s σ H _ _ v us Q I rx rxs ⟨_, a, ys, rfl, rfl, .inl (SqL.of h1), hc, q c H _ (Nx.refl hr) (.str _)⟩
    · cases e2
  · obtain ⟨ys, e1, e2⟩ := Option.bind_eq_some_iff.mp ho
    unfold joinS at e2
    split at e2
    · rename_i hc
      cases e2
      rw [hd.str] at rx
      cases he with
      | of he =>
        cases he with
        | tup h1 h2 h3 =>
          have := strsOf_rep h3 e1
          subst this
          exact mt_join pins s σ H _ _ v us Q I rx rxs ⟨_, _, ys, rfl, rfl, .inr (SqT.of h1), hc, q c H _ (Nx.refl hr) (.str _)⟩
    · cases e2
  · cases ho
theorem b_intS : CallR X (.type "int") (rND X.K intSD) := CallR.imp call_int_str fun xs H Q ⟨c, S, ds, r, hr, hd, ho, q⟩ => by
  unfold intSD at ho
  split at ho
  · split at ho
    · rename_i hl
      obtain ⟨n, e, rfl⟩ := Option.map_eq_some_iff.mp ho
      obtain ⟨u, rfl, h⟩ := hd.one
      rw [h.str]
      exact ⟨_, n, rfl, e, hl, q c H _ (Nx.refl hr) (.int _)⟩
    · cases ho
  · cases ho
theorem se_sm {id : String} {name : Str} {op : D → D → Option D} {o e : Expr} {fo fe : Ex} {apos pos : Pos} (slot : Slot "str" name id) (hty : typeOf (.builtin id) = pure (.type "method_descriptor")) (hm : MtR X id (fun x xs H Q => ∃ y, xs = [y] ∧ r2D X.K op x y H Q))
    (ho : SE X W o fo) (he : SE X W e fe) (hbase : attributeBase o name X.env (eval o X.env) = eval o X.env := by rfl)
    (hfew : ((backTo pos (starEach [e] X.env)).all (fun x => !x.1) && (backToKw pos (keywordEach [] X.env)).all (fun x => x.1.isSome)
      && decide ([e].length + ([] : List Keyword).length + (if ([] : List Keyword).isEmpty then 0 else 1) < 30)) = true := by rfl)
    (hline : (apos.endLine == pos.line) = true := by rfl) (hs : starEach [e] X.env = (false, eval e X.env) :: starEach [] X.env := by rfl) :
    SE X W (.Call (.Attribute o name apos) [e] [] pos) (eSm op fo fe) :=
  PE.imp (pe_bm PySem.F.plainAttrs_str slot hty hm ho (pa_cons he pa_nil hs) hbase hfew hline hs rfl) fun σ H Q ⟨c, ρ, S, hr, he, q⟩ => by
    refine ⟨c, ρ, S, hr, he, (Aft.bind hr q).mono fun v c1 S1 H1 x1 h1 u hu => ?_⟩
    split at h1
    · rename_i ys e1
      have hh := (look_rep x1.rel hu e1).str
      refine ⟨by rw [hh]; exact rfl, c1, ρ, S1, x1.rel, he.keep hr x1, (Aft.bind x1.rel h1).mono fun w c2 S2 H2 x2 h2 y hy => ?_⟩
      exact ⟨y, rfl, op2_r x2.rel (VRep.keep x1.rel x2 hu) hy h2⟩
    · exact h1.elim
end
noncomputable def eFmt (fe : Ex) : Ex := fun ρ S => (fe ρ S).bind fun v S1 => match v with
  | .d (.str y) => if y.length ≤ sizeLine then .ok (.d (.str y)) S1 else .bad
  | .d (.int i) => if i.natAbs.log2 < 1920 then .ok (.d (.str (toString i))) S1 else .bad
  | _ => .bad
noncomputable def eJs : List Ex → Str → Ex
  | [], acc, _, S => .ok (.d (.str acc)) S
  | f :: fs, acc, ρ, S => (f ρ S).noX.bind fun v S1 => match v with
    | .d (.str y) => if (acc ++ y).length ≤ sizeLine then eJs fs (acc ++ y) ρ S1 else .bad
    | _ => .bad
section
variable {X : Cx} {W : WX}
theorem se_fmt {e : Expr} {fe : Ex} {pos : Pos} (h : SE X W e fe) : SE X W (.FormattedValue e (-1) none pos) (eFmt fe) :=
  PE.imp (pe_fmt h) fun σ H Q ⟨c, ρ, S, hr, he, q⟩ => by
    refine ⟨c, ρ, S, hr, he, (Aft.bind hr q).mono fun v c1 S1 H1 x1 h1 u hu => ?_⟩
    split at h1
    · split at h1
      · rename_i hl
        cases (hu : Rep c1.A H1 (.str _) u)
        exact .inl ⟨_, rfl, hl, h1 c1 H1 (Nx.refl x1.rel) _ (Rep.str _)⟩
      · exact h1.elim
    · split at h1
      · rename_i hl
        cases (hu : Rep c1.A H1 (.int _) u)
        exact .inr ⟨_, rfl, hl, h1 c1 H1 (Nx.refl x1.rel) _ (Rep.str _)⟩
      · exact h1.elim
    · exact h1.elim
inductive SJ (X : Cx) : List Expr → List Ex → Prop where
  | nil : SJ X [] []
  | cons {e : Expr} {f : Ex} {es : List Expr} {fs : List Ex} (h : SE X W0 e f) (r : SJ X es fs) : SJ X (e :: es) (f :: fs)
theorem SJ.pj {es : List Expr} {fs : List Ex} (h : SJ X es fs) : PJ X es (fs.map fun f => tE X.K X.mg W0 f) := by
  induction h with
  | nil => exact .nil
  | cons h _ ih => exact .cons h ih
theorem js_run {K : PySem.W.Frag} {mg : Str → Option Value} : ∀ {fs : List Ex} {acc : Str} {c : Cor K} {S : Sto} {H : Hp} {ρ : Ev} {σ : L2.St} {Q : Str → Hp → Prop}, Rel c S H → RepE c H ρ σ →
    (match eJs fs acc ρ S with | .ok v S2 => ∀ c2 H2, Nx c S H c2 S2 H2 → ∃ z, v = .d (.str z) ∧ Q z H2 | _ => False) → tJs (fs.map fun f => tE K mg W0 f) acc σ H Q
  | [], acc, c, S, H, ρ, σ, Q, hr, he, q => by
    obtain ⟨z, e, q⟩ := q c H (Nx.refl hr)
    cases e; exact q
  | f :: fs, acc, c, S, H, ρ, σ, Q, hr, he, q => by
    show tE K mg W0 f σ H _
    refine ⟨c, ρ, S, hr, he, ?_⟩
    revert q
    unfold eJs
    cases e1 : f ρ S with
    | exc _ _ => exact fun q => q.elim
    | bad => exact fun q => q.elim
    | ok v S1 =>
      simp only [R.noX, R.bind]
      intro q c1 H1 x1 u hu
      cases v with
      | d y =>
        cases y with
        | str y =>
          cases (hu : Rep c1.A H1 (.str y) u)
          by_cases hl : (acc ++ y).length ≤ sizeLine
          · simp only [hl, if_true] at q
            refine ⟨y, rfl, hl, js_run (c := c1) (S := S1) (ρ := ρ) x1.rel (he.keep hr x1) ?_⟩
            revert q
            cases e2 : eJs fs (acc ++ y) ρ S1 with
            | exc _ _ => exact fun q => q.elim
            | bad => exact fun q => q.elim
            | ok z S2 => exact fun q c2 H2 x2 => q c2 H2 (x1.trans hr x2)
          · simp only [hl, if_false] at q
        | _ => exact q.elim
      | _ => exact q.elim
theorem eJs_str : ∀ {fs : List Ex} {acc : Str} {ρ : Ev} {S : Sto}, (∃ z S', eJs fs acc ρ S = .ok (.d (.str z)) S') ∨ eJs fs acc ρ S = .bad
  | [], acc, ρ, S => .inl ⟨acc, S, rfl⟩
  | f :: fs, acc, ρ, S => by
    unfold eJs
    cases e1 : f ρ S with
    | exc _ _ => exact .inr rfl
    | bad => exact .inr rfl
    | ok v S1 =>
      simp only [R.noX, R.bind]
      cases v with
      | d y =>
        cases y with
        | str y =>
          by_cases hl : (acc ++ y).length ≤ sizeLine
          · simp only [hl, if_true]; exact eJs_str
          · simp only [hl, if_false]; exact .inr trivial
        | _ => exact .inr rfl
      | _ => exact .inr rfl
theorem se_js {v1 v2 : Expr} {rest : List Expr} {fs : List Ex} {pos : Pos} (h : SJ X (v1 :: v2 :: rest) fs) : SE X W (.JoinedStr (v1 :: v2 :: rest) pos) (eJs fs Str.empty) :=
  PE.imp (pe_joined h.pj) fun σ H Q ⟨c, ρ, S, hr, he, q⟩ => by
    refine js_run (ρ := ρ) hr he ?_
    rcases eJs_str (fs := fs) (acc := Str.empty) (ρ := ρ) (S := S) with ⟨z, S', e⟩ | e
    · rw [e] at q ⊢
      exact fun c2 H2 x2 => ⟨z, rfl, q c2 H2 x2 _ (Rep.str z)⟩
    · rw [e] at q; exact q.elim
end
noncomputable def signsD (x : Str) : List D := x.cps.toList.map fun c => .str ⟨#[c]⟩
noncomputable def itStr (fe : Ex) : Iy := fun ρ S => (fe ρ S).bind fun v S1 => match v with
  | .d (.str x) => if x.cps.size ≤ sizeLine then .ok (signsD x) S1 else .bad
  | _ => .bad
theorem signs_len (x : Str) : (signsD x).length = x.cps.size := by simp [signsD]
theorem wd_str {c : Cor Ω} {S : Sto} {H : Hp} {x : Str} (hl : x.cps.size ≤ sizeLine) : WD c S H (signsD x) (Its x) := by
  refine ⟨?_, by rw [signs_len]; exact hl⟩
  rw [signs_len]
  refine (walk_str (z := x)).mono (fun _ _ => trivial) fun i H1 v H2 hi _ y => ?_
  obtain ⟨rfl, c, hc, rfl⟩ := y
  exact ⟨_, by unfold signsD; rw [List.getElem?_map, Array.getElem?_toList, hc]; rfl, .inl rfl, fun A _ => .str _⟩
theorem si_str {X : Cx} {W : WX} {tg e : Expr} {fe : Ex} (h : SE X W e fe) : SI X W tg e (itStr fe) := PI.imp (pi_str h) fun σ H R' ⟨c, ρ, S, hr, he, q⟩ => by
  refine ⟨c, ρ, S, hr, he, (Aft.bind hr q).mono fun v c1 S1 H1 x1 h1 u hu => ?_⟩
  split at h1
  · rename_i x
    split at h1
    · rename_i hl
      cases (hu : Rep c1.A H1 (.str x) u)
      exact ⟨x, rfl, h1 c1 H1 (Nx.refl x1.rel) _ (wd_str hl)⟩
    · exact h1.elim
  · exact h1.elim
end DL
namespace DL
open PySem PySem.Spec PyProof.Rows L2
noncomputable def keysAre (es : List DictEntry) (ks : List Str) : Bool := es.all fun e => ks.any fun k => e.key.isStr k
theorem miss_ns {K : PySem.W.Frag} {a : Addr} {es : Array DictEntry} {n : Nat} {ks : List Str} {z : Str} (hl : K.lookup a = some ⟨.type "dict", none, .dict es n, #[]⟩) (h : keysAre es.toList ks = true) (hz : z ∉ ks) : PySem.W.nsIn K a z = some none := by
  unfold PySem.W.nsIn
  rw [hl]
  dsimp only
  have hk : ∀ e ∈ es.toList, ∃ k ∈ ks, e.key.isStr k = true := fun e he => by
    have := List.all_eq_true.1 h e he
    obtain ⟨k, hk, hs⟩ := List.any_eq_true.1 this
    exact ⟨k, hk, hs⟩
  have e1 : es.toList.find? (·.key.isStr z) = none := by
    rw [List.find?_eq_none]
    intro e he q
    obtain ⟨k, hk, hs⟩ := hk e he
    cases hv : e.key <;> rw [hv] at hs q <;> simp only [Value.isStr, Bool.false_eq_true] at hs q
    rename_i x t
    have a1 : x = k := by simpa using hs
    have a2 : x = z := by simpa using q
    exact hz (a2 ▸ a1 ▸ hk)
  rw [e1]
  have e2 : es.toList.any (·.refKey) = false := by
    rw [List.any_eq_false]
    intro e he q
    obtain ⟨k, hk, hs⟩ := hk e he
    unfold DictEntry.refKey at q
    cases hv : e.key <;> rw [hv] at hs q <;> simp only [Value.isStr, Bool.false_eq_true] at hs q
  simp [e2]
structure WDKo (K : PySem.W.Frag) (w : World) (a : Addr) (tab : List (Str × Int)) : Prop where
  W : WDK K w a tab
  miss : ∀ z, z ∉ tab.map (·.1) → PySem.W.nsIn K a z = some none
noncomputable def eWGetO (tab : List (Str × Int)) (fe : Ex) : Ex := fun ρ S => (fe ρ S).bind fun v S1 => match v with
  | .d (.str x) => (match tab.find? fun q => q.1 == x with
    | some q => .ok (.d (.int q.2)) S1
    | none => .ok (.d .none) S1)
  | _ => .bad
noncomputable def tWGetO (K : PySem.W.Frag) (w : World) (td ty : TE) : TE := fun σ H Q => td σ H fun x H1 => ∃ a es n, x = .ref a ∧ K.lookup a = some ⟨.type "dict", none, .dict es n, #[]⟩ ∧ PySem.W.KeysLit w.params es.toList ∧ (a == sysModules) = false ∧
  ty σ H1 fun y H2 => ∃ z v r, y = .str z ∧ PySem.W.nsIn K a z = some r ∧ RelV v (r.getD .none) ∧ Q v H2
section
variable {X : Cx} {W : WX}
theorem pe_wgetO {o e : Expr} {td ty : TE} {apos cpos : Pos} (ho : PE X o td) (he : PE X e ty) (m : M1 X o "get" apos e cpos) : PE X (.Call (.Attribute o "get" apos) [e] [] cpos) (tWGetO X.K X.w td ty) := by
  refine ⟨fun pins s σ H Q I h => ?_⟩
  refine wpAny_Call_method m.base m.few m.line PySem.F.plainAttrs_dict PySem.F.slot_dict_get PySem.F.type_dict_get (thn (ho.run pins s σ H _ I h) fun u s1 ⟨x, H1, I1, rx, a, es, n, ex, hl, hk, lo, q1⟩ => ?_)
  subst ex
  obtain rfl : u = Value.ref a := rx
  have hm := PySem.W.mapOf_K (prog := X.prog) (w := X.w) I1.kIn hl hk
  refine ⟨hm.typeIs, fun b e => ?_, ?_⟩
  · cases e
    exact ⟨_, I1.kIn _ _ hl, rfl⟩
  rw [m.trees]
  refine Calls.callWith_builtin rfl (Calls.evalArgs_plain (Calls.spliced_cons (thn (he.run pins s1 σ H1 _ I1 q1) fun iv s2 ⟨y, H2, I2, ry, z, v, r, ey, e, rv, q2⟩ => Calls.spliced_nil ?_)))
  subst ey
  obtain ⟨t, rfl⟩ := ry
  have hm2 := PySem.W.mapOf_K (prog := X.prog) (w := X.w) I2.kIn hl hk
  refine call_meetsIn PySem.F.slot_dict_get hm2.typeIs PySem.F.entry_dict_get (PySem.F.args_dict_get_2 _ _) (meets_dict_get (strKind X.prog X.w) a (strKind_is X.prog X.w z t) lo) ⟨_, hm2, ?_⟩
  refine ⟨v, H2, I2.tok _, ?_, q2⟩
  rw [PySem.W.find_K hl e]
  exact rv
theorem se_wgetO {x : Str} {a : Addr} {e : Expr} {fe : Ex} {q apos cpos : Pos} {tab : List (Str × Int)} (hg : Gl X x) (hm : X.mg x = some (.ref a)) (hw : WDKo X.K X.w a tab) (he : SE X W e fe) (hd : (x == ("__debug__" : Str)) = false := by decide)
    (m : M1 X (.Name x q) "get" apos e cpos := by exact ⟨by rfl, by rfl, by rfl, by rfl⟩) :
    SE X W (.Call (.Attribute (.Name x q) "get" apos) [e] [] cpos) (eWGetO tab fe) := PE.imp (pe_wgetO (pe_glob (v := .ref a) hg hm rfl hd) he m) fun σ H Q ⟨c, ρ, S, hr, hE, p⟩ => by
  obtain ⟨es, n, hl, hk⟩ := hw.W.at'
  refine ⟨a, es, n, rfl, hl, hk, hw.W.low, c, ρ, S, hr, hE, (Aft.bind hr p).mono fun v c1 S1 H1 x1 h1 u hv => ?_⟩
  split at h1
  · rename_i z
    cases (hv : Rep c1.A H1 (.str z) u)
    split at h1
    · rename_i r er
      have hmem := List.mem_of_find?_eq_some er
      have hz := List.find?_some er
      have ez : r.1 = z := by simpa using hz
      obtain ⟨t, et⟩ := hw.W.val r hmem
      rw [ez] at et
      exact ⟨z, .int r.2, _, rfl, et, ⟨t, rfl⟩, h1 c1 H1 (Nx.refl x1.rel) _ (.int _)⟩
    · rename_i er
      have hz : z ∉ tab.map (·.1) := fun hm => by
        obtain ⟨p, hp, ep⟩ := List.mem_map.1 hm
        have := List.find?_eq_none.1 er p hp
        exact this (by simp [ep])
      exact ⟨z, .non, _, rfl, hw.miss z hz, rfl, h1 c1 H1 (Nx.refl x1.rel) _ .non⟩
  · exact h1.elim
end
end DL
namespace DL
open PySem L2
noncomputable def intl (ns : List Int) : List D := ns.map PyData.int
theorem intl_cons (n : Int) (r : List Int) : intl (n :: r) = .int n :: intl r := rfl
theorem eqB_of {a b : D} (ha : SeqAt.shaped a = true) (hb : SeqAt.shaped b = true) (hs : ∀ x, a ≠ .str x) : eqB a b = some (PyData.eqv a b) := by
  unfold eqB
  split
  · exact absurd rfl (hs _)
  · rw [ha, hb]; rfl
theorem eqB_refl {d : D} (h : SeqAt.shaped d = true) : eqB d d = some true := by
  by_cases hs : ∃ x, d = .str x
  · obtain ⟨x, rfl⟩ := hs; simp [eqB]
  · rw [eqB_of h h fun x e => hs ⟨x, e⟩, SeqAt.eqv_refl _ (SeqAt.canLay_of_shaped h)]
theorem eqB_int (i j : Int) : eqB (.int i) (.int j) = some (i == j) := by
  rw [eqB_of rfl rfl (by intro x h; cases h)]; simp [PyData.eqv]
theorem intsOf_ints : ∀ ns : List Int, intsOf (intl ns) = some ns
  | [] => rfl
  | n :: r => by simp [intl_cons, intsOf, intsOf_ints r]
noncomputable def bls (bs : List Bool) : List D := bs.map PyData.bool
theorem blsOf_bls : ∀ ns : List Bool, blsOf (bls ns) = some ns
  | [] => rfl
  | n :: r => by have := blsOf_bls r; simp [bls] at this; simp [bls, blsOf, this]
theorem mulD_l {i j : Int} (h : smallI i = true) : mulD (.int i) (.int j) = some (.int (i * j)) := by simp [mulD, h]
theorem mulD_r {i j : Int} (h : smallI j = true) : mulD (.int i) (.int j) = some (.int (i * j)) := by simp [mulD, h]
theorem small_of {i : Int} (h : -18446744073709551616 < i) (h2 : i < 18446744073709551616) : smallI i = true := by simp [smallI, h, h2]
theorem atI_n {α : Type} (xs : List α) (i : Nat) : atI xs (i : Int) = xs[i]? := by
  unfold atI ixN
  rw [if_pos (by omega)]
  by_cases h : i < xs.length
  · rw [if_pos (by omega)]; simp
  · rw [if_neg (by omega), List.getElem?_eq_none (by omega)]; rfl
noncomputable def P64 : Int := 10 ^ 64
noncomputable def P128 : Int := 10 ^ 128
noncomputable def P192 : Int := 10 ^ 192
noncomputable def P256 : Int := 10 ^ 256
noncomputable def P320 : Int := 10 ^ 320
noncomputable def P384 : Int := 10 ^ 384
theorem pw64 : powD (.int 10) (.int 64) = some (.int P64) := rfl
theorem mulD_of {i j k : Int} (h : (smallI j || smallI i || decide (i.natAbs.log2 + j.natAbs.log2 < 1000000)) = true) (e : i * j = k) : mulD (.int i) (.int j) = some (.int k) := by
  subst e; simp only [mulD]; rw [if_pos h]
theorem ml128 : mulD (.int P64) (.int P64) = some (.int P128) := mulD_of (by decide +kernel) (by decide +kernel)
theorem ml192 : mulD (.int P128) (.int P64) = some (.int P192) := mulD_of (by decide +kernel) (by decide +kernel)
theorem ml256 : mulD (.int P192) (.int P64) = some (.int P256) := mulD_of (by decide +kernel) (by decide +kernel)
theorem ml320 : mulD (.int P256) (.int P64) = some (.int P320) := mulD_of (by decide +kernel) (by decide +kernel)
theorem ml384 : mulD (.int P320) (.int P64) = some (.int P384) := mulD_of (by decide +kernel) (by decide +kernel)
theorem P384_pos : 0 < P384 := by decide +kernel
theorem modD_ok {i j : Int} (h : 0 < j) : modD (.int i) (.int j) = some (.int (i % j)) := by simp [modD, h]
theorem cutD_map {α β : Type} (f : α → β) (xs : List α) (lo hi : Option Int) : cutD (xs.map f) lo hi = (cutD xs lo hi).map f := by
  simp [cutD, List.map_drop, List.map_take]
end DL
namespace DL
open PySem L2
inductive TO where
  | d (x : D)
  | leaf (o : O)
  | lsp (ts : List TO)
  | ins (C : Str) (fs : List (Str × TO))
noncomputable instance : Coe O TO := ⟨TO.leaf⟩
inductive Q (α : Type) where
  | ok (a : α)
  | exc (x : XV) (os : List TO)
  | bad
noncomputable def Q.bind {α β : Type} (q : Q α) (k : α → Q β) : Q β := match q with
  | .ok a => k a
  | .exc x os => .exc x os
  | .bad => .bad
noncomputable def Q.ex {α : Type} (q : Q α) (f : List TO → List TO) : Q α := match q with
  | .exc x os => .exc x (f os)
  | q => q
noncomputable def Q.noX {α : Type} (q : Q α) : Q α := match q with
  | .exc _ _ => .bad
  | q => q
noncomputable def Q.of {α : Type} (o : Option α) : Q α := match o with
  | some a => .ok a
  | none => .bad
@[simp] theorem Q.ok_bind {α β : Type} (a : α) (k : α → Q β) : (Q.ok a).bind k = k a := by simp only [Q.bind]
@[simp] theorem Q.exc_bind {α β : Type} (x : XV) (os : List TO) (k : α → Q β) : (Q.exc x os).bind k = .exc x os := by simp only [Q.bind]
@[simp] theorem Q.bad_bind {α β : Type} (k : α → Q β) : (Q.bad : Q α).bind k = .bad := by simp only [Q.bind]
@[simp] theorem Q.bind_bind {α β γ : Type} (q : Q α) (f : α → Q β) (g : β → Q γ) : (q.bind f).bind g = q.bind fun a => (f a).bind g := by cases q <;> rfl
@[simp] theorem Q.ok_ex {α : Type} (a : α) (f : List TO → List TO) : (Q.ok a).ex f = .ok a := by simp only [Q.ex]
@[simp] theorem Q.exc_ex {α : Type} (x : XV) (os : List TO) (f : List TO → List TO) : (Q.exc x os : Q α).ex f = .exc x (f os) := by simp only [Q.ex]
@[simp] theorem Q.ok_noX {α : Type} (a : α) : (Q.ok a).noX = .ok a := by simp only [Q.noX]
@[simp] theorem Q.exc_noX {α : Type} (x : XV) (os : List TO) : (Q.exc x os : Q α).noX = .bad := by simp only [Q.noX]
@[simp] theorem Q.of_some {α : Type} (a : α) : Q.of (some a) = .ok a := by simp only [Q.of]
@[simp] theorem Q.of_none {α : Type} : Q.of (none : Option α) = .bad := by simp only [Q.of]
theorem Q.bind_ok_id {α : Type} (q : Q α) : q.bind .ok = q := by cases q <;> rfl
noncomputable def lf2 : O → Bool
  | .dct _ => true
  | o => lf o
mutual
inductive TRep (S : Sto) : Pc → TO → List Nat → Prop
  | d {x : D} : TRep S (.d x) (.d x) []
  | leaf {n : Nat} {o : O} : S[n]? = some (some o) → lf2 o = true → TRep S (.loc n) (.leaf o) [n]
  | lsp {n : Nat} {ps : List Pc} {ts : List TO} {L : List Nat} : S[n]? = some (some (.lsp ps)) → TReps S ps ts L → n ∉ L → TRep S (.loc n) (.lsp ts) (n :: L)
  | ins {n : Nat} {C : Str} {fs : List (Str × Pc)} {ts : List (Str × TO)} {L : List Nat} : S[n]? = some (some (.ins C fs)) → fs.map (·.1) = ts.map (·.1) → TReps S (fs.map (·.2)) (ts.map (·.2)) L → n ∉ L → TRep S (.loc n) (.ins C ts) (n :: L)
inductive TReps (S : Sto) : List Pc → List TO → List Nat → Prop
  | nil : TReps S [] [] []
  | cons {p : Pc} {t : TO} {ps : List Pc} {ts : List TO} {L L' : List Nat} : TRep S p t L → TReps S ps ts L' → (∀ n ∈ L, n ∉ L') → TReps S (p :: ps) (t :: ts) (L ++ L')
end
inductive SV where
  | dat (d : D)
  | ob (o : O)
  | par (j : Nat) (o : O)
  | scr (ds : List D)
  | er (o : Option XV)
  | tr (t : TO)
  | ptr (j : Nat) (t : TO)
noncomputable abbrev AS := List (Option SV)
noncomputable def erV : Option XV → Val
  | none => .d .none
  | some x => .er x
noncomputable def VM (S : Sto) : SV → Val → Prop
  | .dat d, v => v = .d d
  | .ob o, v => ∃ n, v = .loc n ∧ S[n]? = some (some o)
  | .par j o, v => v = .loc j ∧ S[j]? = some (some o)
  | .scr ds, v => v = .scr ds
  | .er o, v => v = erV o
  | .tr t, v => ∃ n L, v = .loc n ∧ TRep S (.loc n) t L
  | .ptr j t, v => v = .loc j ∧ ∃ L, TRep S (.loc j) t L
noncomputable def VMF (S : Sto) : SV → Val → List Nat → Prop
  | .dat d, v, L => v = .d d ∧ L = []
  | .ob o, v, L => ∃ n, v = .loc n ∧ S[n]? = some (some o) ∧ lf o = true ∧ L = [n]
  | .par j o, v, L => v = .loc j ∧ S[j]? = some (some o) ∧ lf o = true ∧ L = [j]
  | .scr ds, v, L => v = .scr ds ∧ L = []
  | .er o, v, L => v = erV o ∧ L = []
  | .tr t, v, L => ∃ n, v = .loc n ∧ TRep S (.loc n) t L
  | .ptr j t, v, L => v = .loc j ∧ TRep S (.loc j) t L
noncomputable def EnvF (A : AS) (ρ : Ev) (S : Sto) (F : Nat → List Nat) : Prop := (∀ (i : Nat) (sv : SV), A[i]? = some (some sv) → ∃ v, ρ[i]? = some (some v) ∧ VMF S sv v (F i)) ∧ ∀ (i j : Nat) (sv sv' : SV) (n : Nat), A[i]? = some (some sv) → A[j]? = some (some sv') → n ∈ F i → n ∈ F j → i = j
structure Env (A : AS) (ρ : Ev) (S : Sto) : Prop where
  len : ρ.length = A.length
  fp : ∃ F : Nat → List Nat, EnvF A ρ S F
theorem TRep.lt {S : Sto} {p : Pc} {t : TO} {L : List Nat} (h : TRep S p t L) : ∀ n ∈ L, n < S.length :=
  TRep.rec (motive_1 := fun _ _ L _ => ∀ n ∈ L, n < S.length) (motive_2 := fun _ _ L _ => ∀ n ∈ L, n < S.length)
    (fun n hn => by simp at hn) (fun h _ n hn => by simp at hn; subst hn; exact (List.getElem?_eq_some_iff.mp h).1)
    (fun h _ _ ih n hn => by rcases List.mem_cons.mp hn with rfl | hn; exact (List.getElem?_eq_some_iff.mp h).1; exact ih n hn)
    (fun h _ _ _ ih n hn => by rcases List.mem_cons.mp hn with rfl | hn; exact (List.getElem?_eq_some_iff.mp h).1; exact ih n hn)
    (fun n hn => by simp at hn) (fun _ _ _ ih1 ih2 n hn => by rcases List.mem_append.mp hn with hn | hn; exact ih1 n hn; exact ih2 n hn) h
theorem TRep.off {S S' : Sto} {p : Pc} {t : TO} {L : List Nat} (h : TRep S p t L) : (∀ n ∈ L, S'[n]? = S[n]?) → TRep S' p t L :=
  TRep.rec (motive_1 := fun p t L _ => (∀ n ∈ L, S'[n]? = S[n]?) → TRep S' p t L) (motive_2 := fun ps ts L _ => (∀ n ∈ L, S'[n]? = S[n]?) → TReps S' ps ts L)
    (fun _ => .d) (fun h l e => .leaf (by rw [e _ (by simp)]; exact h) l)
    (fun h _ hn ih e => .lsp (by rw [e _ (by simp)]; exact h) (ih fun n hn => e n (List.mem_cons_of_mem _ hn)) hn)
    (fun h he _ hn ih e => .ins (by rw [e _ (by simp)]; exact h) he (ih fun n hn => e n (List.mem_cons_of_mem _ hn)) hn)
    (fun _ => .nil) (fun _ _ hd ih1 ih2 e => .cons (ih1 fun n hn => e n (List.mem_append_left _ hn)) (ih2 fun n hn => e n (List.mem_append_right _ hn)) hd) h
theorem TRep.uniq {S : Sto} {p : Pc} {t : TO} {L : List Nat} (h : TRep S p t L) : ∀ L', TRep S p t L' → L = L' :=
  TRep.rec (motive_1 := fun p t L _ => ∀ L', TRep S p t L' → L = L') (motive_2 := fun ps ts L _ => ∀ L', TReps S ps ts L' → L = L')
    (fun L' h => by cases h; rfl) (fun _ _ L' h => by cases h; rfl)
    (fun h1 _ _ ih L' h => by
      cases h with
      | lsp h2 h3 _ => rw [h1] at h2; cases h2; rw [ih _ h3])
    (fun h1 _ _ _ ih L' h => by
      cases h with
      | ins h2 _ h3 _ => rw [h1] at h2; cases h2; rw [ih _ h3])
    (fun L' h => by cases h; rfl) (fun _ _ _ ih1 ih2 L' h => by
      cases h with
      | cons h1 h2 _ => rw [ih1 _ h1, ih2 _ h2]) h
theorem TRep.head {S : Sto} {n : Nat} {t : TO} {L : List Nat} (h : TRep S (.loc n) t L) : n ∈ L ∧ ∃ o, S[n]? = some (some o) := by
  cases h with
  | leaf h _ => exact ⟨by simp, _, h⟩
  | lsp h _ _ => exact ⟨by simp, _, h⟩
  | ins h _ _ _ => exact ⟨by simp, _, h⟩
theorem VMF.lt {S : Sto} {sv : SV} {v : Val} {L : List Nat} (h : VMF S sv v L) : ∀ n ∈ L, n < S.length := by
  cases sv with
  | dat d => obtain ⟨_, rfl⟩ := h; simp
  | ob o => obtain ⟨n, _, h, _, rfl⟩ := h; intro m hm; simp at hm; subst hm; exact (List.getElem?_eq_some_iff.mp h).1
  | par j o => obtain ⟨_, h, _, rfl⟩ := h; intro m hm; simp at hm; subst hm; exact (List.getElem?_eq_some_iff.mp h).1
  | scr ds => obtain ⟨_, rfl⟩ := h; simp
  | er o => obtain ⟨_, rfl⟩ := h; simp
  | tr t => obtain ⟨n, _, h⟩ := h; exact h.lt
  | ptr j t => obtain ⟨_, h⟩ := h; exact h.lt
theorem VMF.off {S S' : Sto} {sv : SV} {v : Val} {L : List Nat} (h : VMF S sv v L) (e : ∀ n ∈ L, S'[n]? = S[n]?) : VMF S' sv v L := by
  cases sv with
  | dat d => exact h
  | ob o => obtain ⟨n, h1, h, h2, rfl⟩ := h; exact ⟨n, h1, by rw [e n (by simp)]; exact h, h2, rfl⟩
  | par j o => obtain ⟨h1, h, h2, rfl⟩ := h; exact ⟨h1, by rw [e j (by simp)]; exact h, h2, rfl⟩
  | scr ds => exact h
  | er o => exact h
  | tr t => obtain ⟨n, h1, h⟩ := h; exact ⟨n, h1, h.off e⟩
  | ptr j t => obtain ⟨h1, h⟩ := h; exact ⟨h1, h.off e⟩
theorem VMF.vm {S : Sto} {sv : SV} {v : Val} {L : List Nat} (h : VMF S sv v L) : VM S sv v := by
  cases sv with
  | dat d => exact h.1
  | ob o => obtain ⟨n, h1, h, _⟩ := h; exact ⟨n, h1, h⟩
  | par j o => exact ⟨h.1, h.2.1⟩
  | scr ds => exact h.1
  | er o => exact h.1
  | tr t => obtain ⟨n, h1, h⟩ := h; exact ⟨n, L, h1, h⟩
  | ptr j t => exact ⟨h.1, L, h.2⟩
theorem VMF.uniq {S : Sto} {sv : SV} {v : Val} {L L' : List Nat} (h : VMF S sv v L) (h' : VMF S sv v L') : L = L' := by
  cases sv with
  | dat d => rw [h.2, h'.2]
  | ob o => obtain ⟨n, rfl, _, _, rfl⟩ := h; obtain ⟨m, e, _, _, rfl⟩ := h'; cases e; rfl
  | par j o => rw [h.2.2.2, h'.2.2.2]
  | scr ds => rw [h.2, h'.2]
  | er o => rw [h.2, h'.2]
  | tr t => obtain ⟨n, rfl, h⟩ := h; obtain ⟨m, e, h'⟩ := h'; cases e; exact h.uniq _ h'
  | ptr j t => exact h.2.uniq _ h'.2
theorem VMF.mem {S : Sto} {sv : SV} {n : Nat} {L : List Nat} (h : VMF S sv (.loc n) L) : n ∈ L := by
  cases sv with
  | dat d => cases h.1
  | ob o => obtain ⟨m, h1, _, _, rfl⟩ := h; cases h1; simp
  | par j o => obtain ⟨h1, _, _, rfl⟩ := h; cases h1; simp
  | scr ds => cases h.1
  | er o => obtain ⟨h, _⟩ := h; cases o <;> cases h
  | tr t => obtain ⟨m, h1, h⟩ := h; cases h1; exact h.head.1
  | ptr j t => obtain ⟨h1, h⟩ := h; cases h1; exact h.head.1
section
variable {A : AS} {ρ : Ev} {S : Sto}
theorem Env.at' (E : Env A ρ S) (i : Nat) (sv : SV) (h : A[i]? = some (some sv)) : ∃ v, ρ[i]? = some (some v) ∧ VM S sv v := by
  obtain ⟨F, h1, _⟩ := E.fp
  obtain ⟨v, h2, h3⟩ := h1 i sv h
  exact ⟨v, h2, h3.vm⟩
theorem Env.inj (E : Env A ρ S) (i j : Nat) (sv sv' : SV) (n : Nat) (hi : A[i]? = some (some sv)) (hj : A[j]? = some (some sv')) (h1 : ρ[i]? = some (some (.loc n))) (h2 : ρ[j]? = some (some (.loc n))) : i = j := by
  obtain ⟨F, g1, g2⟩ := E.fp
  obtain ⟨v, e1, m1⟩ := g1 i sv hi
  obtain ⟨w, e2, m2⟩ := g1 j sv' hj
  rw [h1] at e1; cases e1
  rw [h2] at e2; cases e2
  exact g2 i j sv sv' n hi hj m1.mem m2.mem
theorem Env.leaf (E : Env A ρ S) (i : Nat) (o : O) (h : A[i]? = some (some (.ob o)) ∨ ∃ j, A[i]? = some (some (.par j o))) : DL.lf o = true := by
  obtain ⟨F, g1, _⟩ := E.fp
  rcases h with h | ⟨j, h⟩
  · obtain ⟨v, e1, n, _, _, l, _⟩ := g1 i _ h; exact l
  · obtain ⟨v, e1, _, _, l, _⟩ := g1 i _ h; exact l
end
noncomputable def Fresh (A : AS) (ρ : Ev) (S : Sto) (n : Nat) : Prop := ∀ (i : Nat) (sv : SV) (v : Val) (L : List Nat), A[i]? = some (some sv) → ρ[i]? = some (some v) → VMF S sv v L → n ∉ L
inductive RV where
  | dat (d : D)
  | sl (i : Nat)
  | new (o : O)
  | scr (ds : List D)
  | er (o : Option XV)
  /-- a new tree -/
  | newt (t : TO)
  /-- a tuple with new places in it -/
  | tup (ts : List TO)
  /-- a place in what stands in a slot -/
  | sub (i : Nat) (π : List Nat)
noncomputable def walkS (S : Sto) : Nat → List Nat → Option Nat
  | n, [] => some n
  | n, k :: π => match S[n]? with
    | some (some (.lsp ps)) => match ps[k]? with
      | some (.loc m) => walkS S m π
      | _ => none
    | some (some (.ins _ fs)) => match fs[k]? with
      | some (_, .loc m) => walkS S m π
      | _ => none
    | _ => none
noncomputable def VR (A : AS) (ρ : Ev) (S : Sto) : RV → Val → Prop
  | .dat d, v => v = .d d
  | .sl i, v => ∃ n sv o, A[i]? = some (some sv) ∧ ρ[i]? = some (some v) ∧ v = .loc n ∧ S[n]? = some (some o)
  | .new o, v => DL.lf o = true ∧ ∃ n, v = .loc n ∧ S[n]? = some (some o) ∧ Fresh A ρ S n
  | .scr ds, v => v = .scr ds
  | .er o, v => v = erV o
  | .newt t, v => ∃ n L, v = .loc n ∧ TRep S (.loc n) t L ∧ ∀ m ∈ L, Fresh A ρ S m
  | .tup ts, v => ∃ ps L, v = .tup ps ∧ TReps S ps ts L ∧ ∀ m ∈ L, Fresh A ρ S m
  | .sub i π, v => ∃ r n sv, A[i]? = some (some sv) ∧ ρ[i]? = some (some (.loc r)) ∧ walkS S r π = some n ∧ v = .loc n
inductive VRs (A : AS) (ρ : Ev) (S : Sto) : List RV → List Val → Prop
  | nil : VRs A ρ S [] []
  | cons {r : RV} {v : Val} {rs : List RV} {vs : List Val} : VR A ρ S r v → VRs A ρ S rs vs → VRs A ρ S (r :: rs) (v :: vs)
noncomputable def newLoc1 : RV → Val → List Nat
  | .new _, .loc n => [n]
  | .newt _, .loc n => [n]
  | _, _ => []
noncomputable def newLocs : List RV → List Val → List Nat
  | r :: rs, v :: vs => newLoc1 r v ++ newLocs rs vs
  | _, _ => []
inductive AF where
  | nx (A : AS) | bk (A : AS) | ct (A : AS) | rt (v : RV) (A : AS)
noncomputable def Mt : R Flow → AF → Prop
  | .ok (.nx ρ) S, .nx A => Env A ρ S
  | .ok (.bk ρ) S, .bk A => Env A ρ S
  | .ok (.ct ρ) S, .ct A => Env A ρ S
  | .ok (.rt v) S, .rt r A => ∃ ρ, Env A ρ S ∧ VR A ρ S r v
  | _, _ => False
structure Gx (β : Type) where
  G : AF → β → Prop
  E : AS → List TO → Prop
noncomputable def Ref {β : Type} (Γ : Gx β) (r : R Flow) : Q β → Prop
  | .bad => True
  | .ok a => ∃ fl, Mt r fl ∧ Γ.G fl a
  | .exc x os => ∃ ρ S B, r = .ok (.ex x ρ) S ∧ Env B ρ S ∧ Γ.E B os
noncomputable def CE {β : Type} (e : Ex) (A : AS) (t : Q β) (κ : RV → AS → Q β → Prop) (Γ : Gx β) : Prop :=
  ∀ ρ S k, Env A ρ S → (∀ rv v B S' t', κ rv B t' → Env B ρ S' → VR B ρ S' rv v → Ref Γ (k v S') t') → Ref Γ ((e ρ S).st ρ k) t
noncomputable def CT {β : Type} (e : Te) (A : AS) (t : Q β) (κ : Bool → AS → Q β → Prop) (Γ : Gx β) : Prop :=
  ∀ ρ S k, Env A ρ S → (∀ b B S' t', κ b B t' → Env B ρ S' → Ref Γ (k b S') t') → Ref Γ ((e ρ S).st ρ k) t
noncomputable def CA {β : Type} (e : La) (A : AS) (t : Q β) (κ : List RV → AS → Q β → Prop) (Γ : Gx β) : Prop :=
  ∀ ρ S k, Env A ρ S → (∀ rvs vs B S' t', κ rvs B t' → Env B ρ S' → VRs B ρ S' rvs vs → (newLocs rvs vs).Nodup → Ref Γ (k vs S') t') → Ref Γ ((e ρ S).st ρ k) t
noncomputable def CI {β : Type} (e : Iy) (A : AS) (t : Q β) (κ : List D → AS → Q β → Prop) (Γ : Gx β) : Prop :=
  ∀ ρ S k, Env A ρ S → (∀ ds B S' t', κ ds B t' → Env B ρ S' → Ref Γ (k ds S') t') → Ref Γ ((e ρ S).st ρ k) t
noncomputable def CB {β : Type} (b : Blk) (A : AS) (t : Q β) (κ : AS → Q β → Prop) (Γ : Gx β) : Prop :=
  ∀ ρ S k, Env A ρ S → (∀ B ρ' S' t', κ B t' → Env B ρ' S' → Ref Γ (k ρ' S') t') → Ref Γ ((b ρ S).fl k) t
noncomputable def PE1 (e : Ex) (A : AS) (d : D) : Prop := ∀ ρ S, Env A ρ S → e ρ S = .ok (.d d) S
noncomputable def PL (e : Ex) (A : AS) (d : D) : Prop := ∀ ρ S, Env A ρ S → ∃ v, e ρ S = .ok v S ∧ look S v = some d
noncomputable def PLR (e : Ex) (A : AS) (d : D) : Prop := ∀ ρ S, Env A ρ S → ∃ v, e ρ S = .ok v S ∧ lookR S v = some d
noncomputable def PT1 (e : Te) (A : AS) (b : Bool) : Prop := ∀ ρ S, Env A ρ S → e ρ S = .ok b S
noncomputable def PA1 (e : La) (A : AS) (ds : List D) : Prop := ∀ ρ S, Env A ρ S → e ρ S = .ok (ds.map .d) S
noncomputable def PLA (e : La) (A : AS) (ds : List D) : Prop := ∀ ρ S, Env A ρ S → ∃ vs, e ρ S = .ok vs S ∧ lookAll S vs = some ds
noncomputable def PO1 (e : Po) (A : AS) (o : Option Int) : Prop := ∀ ρ S, Env A ρ S → e ρ S = .ok o S
section
variable {A : AS}
theorem PE1.pl {e : Ex} {d : D} (h : PE1 e A d) : PL e A d := fun ρ S E => ⟨_, h ρ S E, rfl⟩
theorem PL.plr {e : Ex} {d : D} (h : PL e A d) : PLR e A d := fun ρ S E => by
  obtain ⟨v, h1, h2⟩ := h ρ S E
  refine ⟨v, h1, ?_⟩
  cases v with
  | d x => exact h2
  | loc n => exact h2
  | scr ds => cases h2
  | er x => cases h2
  | tup x => cases h2
theorem PE1.plr {e : Ex} {d : D} (h : PE1 e A d) : PLR e A d := h.pl.plr
theorem pe_var {i : Nat} {d : D} (h : A[i]? = some (some (.dat d))) : PE1 (eVar i) A d := fun ρ S E => by
  obtain ⟨v, h1, h2⟩ := E.at' i _ h
  cases h2
  simp only [eVar, h1]
theorem pl_mut {i : Nat} {o : O} (h : A[i]? = some (some (.ob o))) : PL (eVar i) A (objD o) := fun ρ S E => by
  obtain ⟨v, h1, n, rfl, h3⟩ := E.at' i _ h
  have h4 := E.leaf i _ (.inl h)
  refine ⟨.loc n, by simp only [eVar, h1], ?_⟩
  cases o <;> first | (simp only [look, h3, objD]; done) | cases h4
theorem plr_scr {i : Nat} {ds : List D} (h : A[i]? = some (some (.scr ds))) : PLR (eVar i) A (.list ds) := fun ρ S E => by
  obtain ⟨v, h1, h2⟩ := E.at' i _ h
  cases h2
  exact ⟨.scr ds, by simp only [eVar, h1], rfl⟩
theorem pe_c {d : D} : PE1 (eC d) A d := fun ρ S E => rfl
theorem pe_bin {op : D → D → Option D} {e1 e2 : Ex} {d1 d2 d : D} (h1 : PL e1 A d1) (h2 : PL e2 A d2) (h : op d1 d2 = some d) : PE1 (eBin op e1 e2) A d := fun ρ S E => by
  obtain ⟨v, a1, a2⟩ := h1 ρ S E
  obtain ⟨w, b1, b2⟩ := h2 ρ S E
  simp only [eBin, a1, b1, R.bind, op2, a2, b2, Option.bind, h, ofO]
theorem pe_ix {e1 e2 : Ex} {d1 d2 d : D} (h1 : PLR e1 A d1) (h2 : PL e2 A d2) (h : ixD d1 d2 = some d) : PE1 (eIx e1 e2) A d := fun ρ S E => by
  obtain ⟨v, a1, a2⟩ := h1 ρ S E
  obtain ⟨w, b1, b2⟩ := h2 ρ S E
  simp only [eIx, a1, b1, R.bind, op2R, a2, b2, Option.bind, h, ofO]
theorem po_none : PO1 pNone A none := fun ρ S E => rfl
theorem po_some {e : Ex} {i : Int} (h : PE1 e A (.int i)) : PO1 (pSome e) A (some i) := fun ρ S E => by
  simp only [pSome, h ρ S E, R.bind]
theorem pe_sl {e : Ex} {l h : Po} {lo hi : Option Int} {d d' : D} (h1 : PLR e A d) (h2 : PO1 l A lo) (h3 : PO1 h A hi) (hd : slD lo hi d = some d') : PE1 (eSl e l h) A d' := fun ρ S E => by
  obtain ⟨v, a1, a2⟩ := h1 ρ S E
  simp only [eSl, a1, R.bind, h2 ρ S E, h3 ρ S E, a2, Option.bind, hd, ofO]
theorem pa_nil : PA1 aNil A [] := fun ρ S E => rfl
theorem pa_cons {e : Ex} {r : La} {d : D} {ds : List D} (h : PE1 e A d) (hr : PA1 r A ds) : PA1 (aCons e r) A (d :: ds) := fun ρ S E => by
  simp only [aCons, h ρ S E, hr ρ S E, R.bind, List.map_cons]
theorem pla_nil : PLA aNil A [] := fun ρ S E => ⟨[], rfl, rfl⟩
theorem pla_cons {e : Ex} {r : La} {d : D} {ds : List D} (h : PLR e A d) (hr : PLA r A ds) : PLA (aCons e r) A (d :: ds) := fun ρ S E => by
  obtain ⟨v, a1, a2⟩ := h ρ S E
  obtain ⟨vs, b1, b2⟩ := hr ρ S E
  exact ⟨v :: vs, by simp only [aCons, a1, b1, R.bind], by simp only [lookAll, a2, b2, Option.bind, Option.map]⟩
theorem allD_map : ∀ ds : List D, allD (ds.map .d) = some ds
  | [] => rfl
  | d :: r => by simp only [List.map_cons, allD, allD_map r, Option.map]
theorem pe_tup {f : La} {ds : List D} (h : PA1 f A ds) (hl : ds.length ≤ 1000) : PE1 (eTup f) A (.tuple ds) := fun ρ S E => by
  simp only [eTup, h ρ S E, R.bind, mkSeq, allD_map, hl, if_true]
theorem pe_lst {f : La} {ds : List D} (h : PA1 f A ds) (hl : ds.length ≤ 1000) : PE1 (eLst f) A (.list ds) := fun ρ S E => by
  simp only [eLst, h ρ S E, R.bind, mkSeq, allD_map, hl, if_true]
theorem pe_cb {op : List D → Option D} {f : La} {ds : List D} {d : D} (h : PLA f A ds) (ho : op ds = some d) : PE1 (eCB op f) A d := fun ρ S E => by
  obtain ⟨vs, b1, b2⟩ := h ρ S E
  simp only [eCB, b1, R.bind, b2, Option.bind, ho, ofO]
theorem pe_isi {T : String} {e : Ex} {d : D} (h : PLR e A d) : PE1 (eIsi T e) A (.bool (isiD T d)) := fun ρ S E => by
  obtain ⟨v, a1, a2⟩ := h ρ S E
  simp only [eIsi, a1, R.bind, a2]
theorem pe_not {e : Ex} {b : Bool} (h : PE1 e A (.bool b)) : PE1 (eNot e) A (.bool (!b)) := fun ρ S E => by simp only [eNot, h ρ S E, R.bind]
theorem pe_neg {e : Ex} {i : Int} (h : PE1 e A (.int i)) : PE1 (eNeg e) A (.int (-i)) := fun ρ S E => by simp only [eNeg, h ρ S E, R.bind]
theorem pe_and {e f : Ex} {b c : Bool} (h : PE1 e A (.bool b)) (h2 : PE1 f A (.bool c)) : PE1 (eAnd e f) A (.bool (b && c)) := fun ρ S E => by
  cases b <;> simp only [eAnd, h ρ S E, h2 ρ S E, R.bind, Bool.true_and, Bool.false_and]
theorem pe_chain {op op' : D → D → Option D} {fa fb fc : Ex} {a b c : D} {p q : Bool} (h1 : PL fa A a) (h2 : PL fb A b) (h3 : PL fc A c) (ho : op a b = some (.bool p)) (ho' : op' b c = some (.bool q)) : PE1 (eChain op op' fa fb fc) A (.bool (p && q)) := fun ρ S E => by
  obtain ⟨v, a1, a2⟩ := h1 ρ S E
  obtain ⟨w, b1, b2⟩ := h2 ρ S E
  obtain ⟨u, c1, c2⟩ := h3 ρ S E
  cases p <;> simp only [eChain, a1, b1, c1, R.bind, op2, a2, b2, c2, Option.bind, ho, ho', ofO, Bool.true_and, Bool.false_and]
theorem pe_rev {e : Ex} {d d' : D} (h : PLR e A d) (hd : revD d = some d') : PE1 (eRev e) A d' := fun ρ S E => by
  obtain ⟨v, a1, a2⟩ := h ρ S E
  simp only [eRev, a1, R.bind, a2, Option.bind, hd, ofO]
theorem pt_of {e : Ex} {b : Bool} (h : PE1 e A (.bool b)) : PT1 (tOf e) A b := fun ρ S E => by simp only [tOf, h ρ S E, R.bind, asB]
theorem pt_tru {e : Ex} {d : D} {b : Bool} (h : PL e A d) (hb : truthD d = some b) : PT1 (tTru e) A b := fun ρ S E => by
  obtain ⟨v, a1, a2⟩ := h ρ S E
  simp only [tTru, a1, R.bind, truV, a2, Option.bind, hb]
theorem pt_not {e : Te} {b : Bool} (h : PT1 e A b) : PT1 (tNotE e) A (!b) := fun ρ S E => by simp only [tNotE, h ρ S E, R.bind]
theorem pt_and {e f : Te} {b c : Bool} (h : PT1 e A b) (h2 : PT1 f A c) : PT1 (tAndE e f) A (b && c) := fun ρ S E => by
  cases b <;> simp only [tAndE, h ρ S E, h2 ρ S E, R.bind, Bool.true_and, Bool.false_and]
theorem pt_or {e f : Te} {b c : Bool} (h : PT1 e A b) (h2 : PT1 f A c) : PT1 (tOrE e f) A (b || c) := fun ρ S E => by
  cases b <;> simp only [tOrE, h ρ S E, h2 ρ S E, R.bind, Bool.true_or, Bool.false_or]
theorem pt_yes : PT1 tYesE A true := fun ρ S E => rfl
end
end DL
namespace DL
open PySem L2
theorem getset {α : Type} {l : List α} {i j : Nat} {x y : α} (h : (l.set i x)[j]? = some y) : (i = j ∧ y = x) ∨ (i ≠ j ∧ l[j]? = some y) := by
  by_cases q : i = j
  · subst q
    by_cases hl : i < l.length
    · rw [List.getElem?_set_self hl] at h; cases h; exact .inl ⟨rfl, rfl⟩
    · rw [List.getElem?_eq_none (by simpa using hl)] at h; cases h
  · rw [List.getElem?_set_ne q] at h; exact .inr ⟨q, h⟩
theorem setget {α : Type} {l : List α} {i j : Nat} {x y : α} (h : l[j]? = some y) (q : i ≠ j) : (l.set i x)[j]? = some y := by rw [List.getElem?_set_ne q]; exact h
theorem lt_of_get {α : Type} {l : List α} {i : Nat} {y : α} (h : l[i]? = some y) : i < l.length := (List.getElem?_eq_some_iff.mp h).1
theorem VM.loc {S : Sto} {sv : SV} {n : Nat} (h : VM S sv (.loc n)) : ∃ o, S[n]? = some (some o) ∧ (sv = .ob o ∨ sv = .par n o ∨ ∃ t, sv = .tr t ∨ sv = .ptr n t) := by
  cases sv with
  | dat d => cases h
  | ob o => obtain ⟨m, h1, h2⟩ := h; cases h1; exact ⟨o, h2, .inl rfl⟩
  | par j o => obtain ⟨h1, h2⟩ := h; cases h1; exact ⟨o, h2, .inr (.inl rfl)⟩
  | scr ds => cases h
  | er o => cases o <;> cases h
  | tr t => obtain ⟨m, L, h1, h2⟩ := h; cases h1; obtain ⟨_, o, h3⟩ := h2.head; exact ⟨o, h3, .inr (.inr ⟨t, .inl rfl⟩)⟩
  | ptr j t => obtain ⟨h1, L, h2⟩ := h; cases h1; obtain ⟨_, o, h3⟩ := h2.head; exact ⟨o, h3, .inr (.inr ⟨t, .inr rfl⟩)⟩
section
variable {A B : AS} {ρ : Ev} {S S' : Sto}
theorem Env.setV (E : Env A ρ S) (i : Nat) (sv : SV) (v : Val) (L : List Nat) (hm : VMF S sv v L) (hn : ∀ n ∈ L, Fresh A ρ S n) : Env (A.set i (some sv)) (ρ.set i (some v)) S where
  len := by simpa using E.len
  fp := by
    obtain ⟨F, g1, g2⟩ := E.fp
    refine ⟨fun j => if j = i then L else F j, fun j sv' h => ?_, fun j k sv1 sv2 n hj hk h1 h2 => ?_⟩
    · rcases getset h with ⟨rfl, e⟩ | ⟨q, h⟩
      · cases e
        have := lt_of_get h
        rw [List.length_set] at this
        exact ⟨v, List.getElem?_set_self (E.len ▸ this), by show VMF S sv v (if i = i then L else F i); rw [if_pos rfl]; exact hm⟩
      · obtain ⟨w, h1, h2⟩ := g1 j sv' h
        exact ⟨w, setget h1 q, by show VMF S sv' w (if j = i then L else F j); rw [if_neg fun z => q z.symm]; exact h2⟩
    · have old : ∀ (j : Nat) (s : SV), j ≠ i → A[j]? = some (some s) → n ∈ L → n ∉ F j := fun j s q h hl hf => by
        obtain ⟨w, h1, h2⟩ := g1 j s h
        exact hn n hl j s w (F j) h h1 h2 hf
      by_cases ej : j = i <;> by_cases ek : k = i
      · rw [ej, ek]
      · simp only [ej, ek, if_true, if_false] at h1 h2
        rcases getset hk with ⟨rfl, _⟩ | ⟨_, hk⟩
        · exact absurd rfl ek
        · exact absurd h2 (old k sv2 ek hk h1)
      · simp only [ej, ek, if_true, if_false] at h1 h2
        rcases getset hj with ⟨rfl, _⟩ | ⟨_, hj⟩
        · exact absurd rfl ej
        · exact absurd h1 (old j sv1 ej hj h2)
      · simp only [ej, ek, if_false] at h1 h2
        rcases getset hj with ⟨rfl, _⟩ | ⟨_, hj⟩
        · exact absurd rfl ej
        rcases getset hk with ⟨rfl, _⟩ | ⟨_, hk⟩
        · exact absurd rfl ek
        exact g2 j k sv1 sv2 n hj hk h1 h2
theorem Env.setD (E : Env A ρ S) (i : Nat) (d : D) : Env (A.set i (some (.dat d))) (ρ.set i (some (.d d))) S := E.setV i _ _ [] ⟨rfl, rfl⟩ (fun n h => by simp at h)
theorem Env.setN (E : Env A ρ S) (i n : Nat) (o : O) (hS : S[n]? = some (some o)) (hl : lf o = true) (hn : Fresh A ρ S n) : Env (A.set i (some (.ob o))) (ρ.set i (some (.loc n))) S :=
  E.setV i _ _ [n] ⟨n, rfl, hS, hl, rfl⟩ (fun m h => by simp at h; subst h; exact hn)
theorem Env.drop (E : Env A ρ S) (i : Nat) (o : Option Val) : Env (A.set i none) (ρ.set i o) S where
  len := by simpa using E.len
  fp := by
    obtain ⟨F, g1, g2⟩ := E.fp
    refine ⟨F, fun j sv h => ?_, fun j k sv sv' n hj hk => ?_⟩
    · rcases getset h with ⟨rfl, e⟩ | ⟨q, h⟩
      · cases e
      · obtain ⟨v, h1, h2⟩ := g1 j sv h
        exact ⟨v, setget h1 q, h2⟩
    · rcases getset hj with ⟨rfl, e⟩ | ⟨q1, hj⟩
      · cases e
      rcases getset hk with ⟨rfl, e⟩ | ⟨q2, hk⟩
      · cases e
      exact g2 j k sv sv' n hj hk
theorem Env.drop0 (E : Env A ρ S) (i : Nat) : Env (A.set i none) ρ S where
  len := by simpa using E.len
  fp := by
    obtain ⟨F, g1, g2⟩ := E.fp
    refine ⟨F, fun j sv h => ?_, fun j k sv sv' n hj hk => ?_⟩
    · rcases getset h with ⟨rfl, e⟩ | ⟨q, h⟩
      · cases e
      · exact g1 j sv h
    · rcases getset hj with ⟨rfl, e⟩ | ⟨q1, hj⟩
      · cases e
      rcases getset hk with ⟨rfl, e⟩ | ⟨q2, hk⟩
      · cases e
      exact g2 j k sv sv' n hj hk
theorem EnvF.off {F : Nat → List Nat} (E : EnvF A ρ S F) (h : ∀ (i : Nat) (sv : SV) (n : Nat), A[i]? = some (some sv) → n ∈ F i → S'[n]? = S[n]?) : EnvF A ρ S' F := by
  obtain ⟨g1, g2⟩ := E
  refine ⟨fun j sv hj => ?_, g2⟩
  obtain ⟨v, h1, h2⟩ := g1 j sv hj
  exact ⟨v, h1, h2.off fun n hn => h j sv n hj hn⟩
theorem Env.off (E : Env A ρ S) (h : ∀ n, ¬ Fresh A ρ S n → S'[n]? = S[n]?) : Env A ρ S' where
  len := E.len
  fp := by
    obtain ⟨F, g⟩ := E.fp
    refine ⟨F, g.off fun i sv n hi hn => ?_⟩
    obtain ⟨v, h1, h2⟩ := g.1 i sv hi
    exact h n fun z => z i sv v (F i) hi h1 h2 hn
theorem fresh_ge {n : Nat} (h : S.length ≤ n) : Fresh A ρ S n := fun i sv v L _ _ m hn => absurd (m.lt n hn) (by omega)
theorem Fresh.off (E : Env A ρ S) {n : Nat} (hn : Fresh A ρ S n) (h : ∀ n, ¬ Fresh A ρ S n → S'[n]? = S[n]?) : Fresh A ρ S' n := by
  obtain ⟨F, g1, _⟩ := E.fp
  intro i sv v L hi hv hm hl
  obtain ⟨w, h1, h2⟩ := g1 i sv hi
  rw [hv] at h1; cases h1
  have h3 : VMF S' sv v (F i) := h2.off fun m hm => h m fun z => z i sv v (F i) hi hv h2 hm
  rw [hm.uniq h3] at hl
  exact hn i sv v (F i) hi hv h2 hl
theorem Env.freshDrop (E : Env A ρ S) {i : Nat} {sv : SV} {n : Nat} (hi : A[i]? = some (some sv)) (hr : ρ[i]? = some (some (.loc n))) : Fresh (A.set i none) ρ S n := by
  obtain ⟨F, g1, g2⟩ := E.fp
  obtain ⟨w, e1, m1⟩ := g1 i sv hi
  rw [hr] at e1; cases e1
  intro j s v L hj hv hm hl
  rcases getset hj with ⟨rfl, e⟩ | ⟨q, hj⟩
  · cases e
  obtain ⟨w, e2, m2⟩ := g1 j s hj
  rw [hv] at e2; cases e2
  rw [hm.uniq m2] at hl
  exact q (g2 i j sv s n hi hj m1.mem hl)
theorem Env.grow (E : Env A ρ S) (x : Option O) : Env A ρ (S ++ [x]) := E.off fun n hn => by
  by_cases hl : n < S.length
  · rw [List.getElem?_append_left hl]
  · exact absurd (fresh_ge (by omega)) hn
noncomputable def SV.wo (o : O) : SV → SV
  | .ob _ => .ob o
  | .par j _ => .par j o
  | v => v
theorem EnvF.setO {F : Nat → List Nat} (E : EnvF A ρ S F) {i n : Nat} {sv : SV} (o : O) (hi : A[i]? = some (some sv)) (hr : ρ[i]? = some (some (.loc n))) (hsv : ∃ o0, sv = .ob o0 ∨ ∃ j, sv = .par j o0) (hl : lf o = true) : EnvF (A.set i (some (sv.wo o))) ρ (S.set n (some o)) F := by
  obtain ⟨g1, g2⟩ := E
  obtain ⟨w, hw1, hw2⟩ := g1 i sv hi
  rw [hr] at hw1; cases hw1
  have hF : F i = [n] := by
    obtain ⟨o0, rfl | ⟨j, rfl⟩⟩ := hsv
    · obtain ⟨m, e, _, _, h⟩ := hw2; cases e; exact h
    · obtain ⟨e, _, _, h⟩ := hw2; cases e; exact h
  have hlen : n < S.length := hw2.lt n (by rw [hF]; simp)
  refine ⟨fun j sv' h => ?_, fun j k s s' m hj hk h1 h2 => ?_⟩
  · rcases getset h with ⟨rfl, e⟩ | ⟨q, h⟩
    · cases e
      refine ⟨.loc n, hr, ?_⟩
      obtain ⟨o0, rfl | ⟨j, rfl⟩⟩ := hsv
      · exact ⟨n, rfl, List.getElem?_set_self hlen, hl, hF⟩
      · obtain ⟨e, _⟩ := hw2; cases e; exact ⟨rfl, List.getElem?_set_self hlen, hl, hF⟩
    · obtain ⟨v, h1, h2⟩ := g1 j sv' h
      refine ⟨v, h1, h2.off fun m hm => ?_⟩
      rw [List.getElem?_set_ne]
      intro z
      subst z
      exact q (g2 i j sv sv' n hi h (by rw [hF]; simp) hm)
  · have g : ∀ (j : Nat) (s : SV), (A.set i (some (sv.wo o)))[j]? = some (some s) → ∃ s0, A[j]? = some (some s0) := fun j s h => by
      rcases getset h with ⟨rfl, e⟩ | ⟨q, h⟩
      · exact ⟨sv, hi⟩
      · exact ⟨s, h⟩
    obtain ⟨s0, hj⟩ := g j s hj
    obtain ⟨s1, hk⟩ := g k s' hk
    exact g2 j k s0 s1 m hj hk h1 h2
theorem Env.setO (E : Env A ρ S) {i n : Nat} {sv : SV} (o : O) (hi : A[i]? = some (some sv)) (hr : ρ[i]? = some (some (.loc n))) (hsv : ∃ o0, sv = .ob o0 ∨ ∃ j, sv = .par j o0) (hl : lf o = true) : Env (A.set i (some (sv.wo o))) ρ (S.set n (some o)) :=
  ⟨by simpa using E.len, let ⟨F, g⟩ := E.fp; ⟨F, g.setO o hi hr hsv hl⟩⟩
inductive Weak : AS → AS → Prop
  | nil : Weak [] []
  | keep {x : Option SV} {B A : AS} : Weak B A → Weak (x :: B) (x :: A)
  | drop {x : Option SV} {B A : AS} : Weak B A → Weak (x :: B) (none :: A)
theorem Weak.refl : ∀ A : AS, Weak A A
  | [] => .nil
  | _ :: A => .keep (Weak.refl A)
theorem Weak.len : ∀ {B A : AS}, Weak B A → B.length = A.length
  | _, _, .nil => rfl
  | _, _, .keep h => by simp [h.len]
  | _, _, .drop h => by simp [h.len]
theorem Weak.get : ∀ {B A : AS}, Weak B A → ∀ {i : Nat} {sv : SV}, A[i]? = some (some sv) → B[i]? = some (some sv)
  | _, _, .nil, i, sv, h => by simp at h
  | _, _, .keep w, 0, sv, h => h
  | _, _, .keep w, i + 1, sv, h => by simp at h ⊢; exact w.get h
  | _, _, .drop w, 0, sv, h => by simp at h
  | _, _, .drop w, i + 1, sv, h => by simp at h ⊢; exact w.get h
theorem Env.weak (E : Env B ρ S) (w : Weak B A) : Env A ρ S where
  len := E.len.trans w.len
  fp := by
    obtain ⟨F, g1, g2⟩ := E.fp
    exact ⟨F, fun i sv h => g1 i sv (w.get h), fun i j sv sv' n hi hj => g2 i j sv sv' n (w.get hi) (w.get hj)⟩
end
theorem bind_st {α γ : Type} (r : R α) (f : α → Sto → R γ) (ρ : Ev) (k : γ → Sto → R Flow) : (r.bind f).st ρ k = r.st ρ fun a S => (f a S).st ρ k := by cases r <;> rfl
theorem st_fl {α : Type} (r : R α) (ρ : Ev) (g : α → Sto → R Flow) (k : Ev → Sto → R Flow) : (r.st ρ g).fl k = r.st ρ fun a S => (g a S).fl k := by cases r <;> rfl
noncomputable def Lk (A : AS) : RV → D → Prop
  | .dat e, d => d = e
  | .sl i, d => ∃ o, (A[i]? = some (some (.ob o)) ∨ ∃ j, A[i]? = some (some (.par j o))) ∧ d = objD o
  | _, _ => False
noncomputable def LkR (A : AS) : RV → D → Prop
  | .scr ds, d => d = .list ds
  | r, d => Lk A r d
noncomputable def VR1 (ρ : Ev) : RV → Val → Prop
  | .dat d, v => v = .d d
  | .sl i, v => ρ[i]? = some (some v)
  | .new _, _ => False
  | .scr ds, v => v = .scr ds
  | .er o, v => v = erV o
  | .newt _, _ => False
  | .sub _ _, _ => False
  | .tup _, _ => False
theorem VR.one {A : AS} {ρ : Ev} {S : Sto} {r : RV} {v : Val} {d : D} (h : VR A ρ S r v) {A' : AS} (l : LkR A' r d) : VR1 ρ r v := by
  cases r with
  | dat d => exact h
  | sl i => obtain ⟨n, sv, o, h1, h2, h3, h4⟩ := h; exact h2
  | new o => exact l.elim
  | scr ds => exact h
  | er o => exact h
  | newt t => exact l.elim
  | sub i π => exact l.elim
  | tup ts => exact l.elim
theorem Lk.r {A : AS} {r : RV} {d : D} (h : Lk A r d) : LkR A r d := by
  cases r with
  | dat e => exact h
  | sl i => exact h
  | new o => exact h.elim
  | scr ds => exact h.elim
  | er o => exact h.elim
  | newt t => exact h.elim
  | sub i π => exact h.elim
  | tup ts => exact h.elim
theorem look_obj {S : Sto} {n : Nat} {o : O} (h : S[n]? = some (some o)) (hl : lf o = true) : look S (.loc n) = some (objD o) := by
  cases o <;> first | (simp only [look, h, objD]; done) | cases hl
theorem Lk.look {A : AS} {ρ : Ev} {S : Sto} {r : RV} {v : Val} {d : D} (E : Env A ρ S) (h : VR1 ρ r v) (l : Lk A r d) : look S v = some d := by
  cases r with
  | dat e => cases h; cases l; rfl
  | sl i =>
    obtain ⟨o, h1, rfl⟩ := l
    rcases h1 with h1 | ⟨j, h1⟩
    · obtain ⟨w, e, n, rfl, hS⟩ := E.at' i _ h1
      rw [h] at e; cases e
      exact look_obj hS (E.leaf i _ (.inl h1))
    · obtain ⟨w, e, rfl, hS⟩ := E.at' i _ h1
      rw [h] at e; cases e
      exact look_obj hS (E.leaf i _ (.inr ⟨j, h1⟩))
  | new o => exact h.elim
  | scr ds => exact l.elim
  | er o => exact l.elim
  | newt t => exact l.elim
  | sub i π => exact l.elim
  | tup ts => exact l.elim
theorem look_R {S : Sto} {v : Val} {d : D} (h : look S v = some d) : lookR S v = some d := by
  cases v with
  | d x => exact h
  | loc n => exact h
  | scr ds => cases h
  | er x => cases h
  | tup x => cases h
theorem LkR.look {A : AS} {ρ : Ev} {S : Sto} {r : RV} {v : Val} {d : D} (E : Env A ρ S) (h : VR1 ρ r v) (l : LkR A r d) : lookR S v = some d := by
  cases r with
  | scr ds => cases h; cases l; rfl
  | er o => exact l.elim
  | newt t => exact l.elim
  | sub i π => exact l.elim
  | tup ts => exact l.elim
  | dat e => exact look_R (Lk.look E h l)
  | sl i => exact look_R (Lk.look E (r := .sl i) h l)
  | new o => exact h.elim
noncomputable def Fin {β : Type} (o : Option D) (A : AS) (t : Q β) (κ : RV → AS → Q β → Prop) : Prop := t ≠ .bad → ∃ d, o = some d ∧ κ (.dat d) A t
section
variable {β : Type} {Γ : Gx β} {A : AS} {t : Q β}
theorem fin_ok {o : Option D} {d : D} {κ : RV → AS → Q β → Prop} (h : o = some d) (hk : κ (.dat d) A t) : Fin o A t κ := fun _ => ⟨d, h, hk⟩
theorem fin_of {α : Type} {o : Option D} {o' : Option α} {k : α → Q β} {κ : RV → AS → Q β → Prop} (f : α → D) (h : o = o'.map f) (hk : ∀ a, κ (.dat (f a)) A (k a)) : Fin o A ((Q.of o').bind k) κ := fun hb => by
  cases o' with
  | none => exact absurd rfl hb
  | some a => exact ⟨f a, h, hk a⟩
theorem fin_imp {α : Type} {o : Option D} {o' : Option α} {k : α → Q β} {κ : RV → AS → Q β → Prop} (f : α → D) (h : ∀ a, o' = some a → o = some (f a)) (hk : ∀ a, κ (.dat (f a)) A (k a)) : Fin o A ((Q.of o').bind k) κ := fun hb => by
  cases o' with
  | none => exact absurd rfl hb
  | some a => exact ⟨f a, h a rfl, hk a⟩
theorem Ref.bad {r : R Flow} : Ref Γ r .bad := trivial
theorem ref_ofO {ρ : Ev} {S : Sto} {o : Option D} {κ : RV → AS → Q β → Prop} {k : Val → Sto → R Flow} (E : Env A ρ S) (hf : Fin o A t κ)
    (hc : ∀ rv v B S' t', κ rv B t' → Env B ρ S' → VR B ρ S' rv v → Ref Γ (k v S') t') : Ref Γ ((ofO o S).st ρ k) t := by
  by_cases hb : t = .bad
  · rw [hb]; trivial
  · obtain ⟨d, rfl, hk⟩ := hf hb
    exact hc _ _ _ _ _ hk E rfl
theorem ce_pure {e : Ex} {d : D} {κ : RV → AS → Q β → Prop} (h : PE1 e A d) (hk : κ (.dat d) A t) : CE e A t κ Γ := fun ρ S k E hc => by
  rw [h ρ S E]; exact hc _ _ _ _ _ hk E rfl
theorem ce_mut {i : Nat} {o : O} {κ : RV → AS → Q β → Prop} (h : A[i]? = some (some (.ob o))) (hk : κ (.sl i) A t) : CE (eVar i) A t κ Γ := fun ρ S k E hc => by
  obtain ⟨v, h1, n, rfl, h3⟩ := E.at' i _ h
  simp only [eVar, h1, R.st]
  exact hc _ _ _ _ _ hk E ⟨n, _, o, h, h1, rfl, h3⟩
theorem ce_par {i j : Nat} {o : O} {κ : RV → AS → Q β → Prop} (h : A[i]? = some (some (.par j o))) (hk : κ (.sl i) A t) : CE (eVar i) A t κ Γ := fun ρ S k E hc => by
  obtain ⟨v, h1, rfl, h3⟩ := E.at' i _ h
  simp only [eVar, h1, R.st]
  exact hc _ _ _ _ _ hk E ⟨j, _, o, h, h1, rfl, h3⟩
theorem ce_bin {op : D → D → Option D} {e1 e2 : Ex} {κ : RV → AS → Q β → Prop}
    (h : CE e1 A t (fun r1 A1 t1 => CE e2 A1 t1 (fun r2 A2 t2 => ∃ d1 d2, Lk A2 r1 d1 ∧ Lk A2 r2 d2 ∧ Fin (op d1 d2) A2 t2 κ) Γ) Γ) : CE (eBin op e1 e2) A t κ Γ := fun ρ S k E hc => by
  simp only [eBin, bind_st]
  refine h ρ S _ E fun r1 v1 B1 S1 t1 h1 E1 q1 => ?_
  refine h1 ρ S1 _ E1 fun r2 v2 B2 S2 t2 h2 E2 q2 => ?_
  obtain ⟨d1, d2, l1, l2, hf⟩ := h2
  simp only [op2, Lk.look E2 (q1.one l1.r) l1, Lk.look E2 (q2.one l2.r) l2, Option.bind]
  exact ref_ofO E2 hf hc
theorem ce_ix {e1 e2 : Ex} {κ : RV → AS → Q β → Prop}
    (h : CE e1 A t (fun r1 A1 t1 => CE e2 A1 t1 (fun r2 A2 t2 => ∃ d1 d2, LkR A2 r1 d1 ∧ Lk A2 r2 d2 ∧ Fin (ixD d1 d2) A2 t2 κ) Γ) Γ) : CE (eIx e1 e2) A t κ Γ := fun ρ S k E hc => by
  simp only [eIx, bind_st]
  refine h ρ S _ E fun r1 v1 B1 S1 t1 h1 E1 q1 => ?_
  refine h1 ρ S1 _ E1 fun r2 v2 B2 S2 t2 h2 E2 q2 => ?_
  obtain ⟨d1, d2, l1, l2, hf⟩ := h2
  simp only [op2R, LkR.look E2 (q1.one l1) l1, Lk.look E2 (q2.one l2.r) l2, Option.bind]
  exact ref_ofO E2 hf hc
theorem ce_sl {e : Ex} {l h : Po} {κ : RV → AS → Q β → Prop}
    (he : CE e A t (fun r1 A1 t1 => ∃ lo hi d, PO1 l A1 lo ∧ PO1 h A1 hi ∧ LkR A1 r1 d ∧ Fin (slD lo hi d) A1 t1 κ) Γ) : CE (eSl e l h) A t κ Γ := fun ρ S k E hc => by
  simp only [eSl, bind_st]
  refine he ρ S _ E fun r1 v1 B1 S1 t1 h1 E1 q1 => ?_
  obtain ⟨lo, hi, d, a1, a2, l1, hf⟩ := h1
  simp only [a1 ρ S1 E1, a2 ρ S1 E1, R.st, LkR.look E1 (q1.one l1) l1, Option.bind]
  exact ref_ofO E1 hf hc
theorem ca_nil {κ : List RV → AS → Q β → Prop} (h : κ [] A t) : CA aNil A t κ Γ := fun ρ S k E hc => hc _ _ _ _ _ h E .nil (by simp [newLocs, newLoc1])
theorem ca_dat {e : Ex} {r : La} {κ : List RV → AS → Q β → Prop} (h : CE e A t (fun rv B t' => ∃ d, rv = .dat d ∧ CA r B t' (fun rvs C t'' => κ (.dat d :: rvs) C t'') Γ) Γ) : CA (aCons e r) A t κ Γ := fun ρ S k E hc => by
  simp only [aCons, bind_st]
  refine h ρ S _ E fun r1 v1 B1 S1 t1 h1 E1 q1 => ?_
  obtain ⟨d, rfl, h1⟩ := h1
  refine h1 ρ S1 _ E1 fun r2 v2 B2 S2 t2 h2 E2 q2 n2 => ?_
  exact hc _ _ _ _ _ h2 E2 (.cons q1 q2) (by simpa [newLocs, newLoc1] using n2)
theorem ca_pure {r : La} {ds : List D} {κ : List RV → AS → Q β → Prop} (h : PA1 r A ds) (hk : κ (ds.map .dat) A t) : CA r A t κ Γ := fun ρ S k E hc => by
  rw [h ρ S E]
  refine hc _ _ _ _ _ hk E ?_ ?_
  · clear h hk
    induction ds with
    | nil => exact .nil
    | cons d r ih => exact .cons rfl ih
  · clear h hk
    induction ds with
    | nil => simp [newLocs, newLoc1]
    | cons d r ih => simpa [newLocs, newLoc1] using ih
noncomputable def IsOb (A : AS) (i : Nat) : Prop := ∃ o, A[i]? = some (some (.ob o)) ∨ ∃ j, A[i]? = some (some (.par j o))
theorem IsOb.m {i : Nat} {o : O} (h : A[i]? = some (some (.ob o))) : IsOb A i := ⟨o, .inl h⟩
theorem IsOb.p {i j : Nat} {o : O} (h : A[i]? = some (some (.par j o))) : IsOb A i := ⟨o, .inr ⟨j, h⟩⟩
theorem IsOb.at {i : Nat} (h : IsOb A i) {ρ : Ev} {S : Sto} (E : Env A ρ S) : ∃ n sv o, A[i]? = some (some sv) ∧ ρ[i]? = some (some (.loc n)) ∧ S[n]? = some (some o) ∧ (sv = .ob o ∨ sv = .par n o) := by
  obtain ⟨o, h | ⟨j, h⟩⟩ := h
  · obtain ⟨v, h1, n, rfl, h3⟩ := E.at' i _ h; exact ⟨n, _, o, h, h1, h3, .inl rfl⟩
  · obtain ⟨v, h1, rfl, h3⟩ := E.at' i _ h; exact ⟨j, _, o, h, h1, h3, .inr rfl⟩
theorem ca_sl {i : Nat} {r : La} {κ : List RV → AS → Q β → Prop} (hi : IsOb A i) (h : CA r A t (fun rvs C t'' => IsOb C i ∧ κ (.sl i :: rvs) C t'') Γ) : CA (aCons (eVar i) r) A t κ Γ := fun ρ S k E hc => by
  obtain ⟨n, sv, o, h0, h1, h3, h4⟩ := hi.at E
  simp only [aCons, bind_st]
  simp only [eVar, h1, R.st]
  refine h ρ S _ E fun r2 v2 B2 S2 t2 h2 E2 q2 n2 => ?_
  obtain ⟨m, sv', o', g0, g1, g3, g4⟩ := h2.1.at E2
  refine hc _ _ _ _ _ h2.2 E2 (.cons ⟨n, sv', o', g0, h1, rfl, ?_⟩ q2) (by simpa [newLocs, newLoc1] using n2)
  rw [h1] at g1; cases g1; exact g3
theorem ca_scr {i : Nat} {ds : List D} {r : La} {κ : List RV → AS → Q β → Prop} (hi : A[i]? = some (some (.scr ds))) (h : CA r A t (fun rvs C t'' => κ (.scr ds :: rvs) C t'') Γ) : CA (aCons (eVar i) r) A t κ Γ := fun ρ S k E hc => by
  obtain ⟨v, h1, h2⟩ := E.at' i _ hi
  cases h2
  simp only [aCons, bind_st]
  simp only [eVar, h1, R.st]
  refine h ρ S _ E fun r2 v2 B2 S2 t2 h2 E2 q2 n2 => ?_
  exact hc _ _ _ _ _ h2 E2 (.cons rfl q2) (by simpa [newLocs, newLoc1] using n2)
theorem fresh_new {ρ : Ev} {S : Sto} (E : Env A ρ S) (x : Option O) : Fresh A ρ (S ++ [x]) S.length := by
  obtain ⟨F, g1, _⟩ := E.fp
  intro i sv v L hi hv hm hn
  obtain ⟨w, h1, h2⟩ := g1 i sv hi
  rw [hv] at h1; cases h1
  have h3 : VMF (S ++ [x]) sv v (F i) := h2.off fun m hm => by rw [List.getElem?_append_left (h2.lt m hm)]
  rw [hm.uniq h3] at hn
  exact absurd (h2.lt _ hn) (Nat.lt_irrefl _)
theorem vr_new0 {ρ : Ev} {S : Sto} (E : Env A ρ S) (o : O) (hl : lf o = true := by rfl) : VR A ρ (S ++ [some o]) (.new o) (.loc S.length) :=
  ⟨hl, S.length, rfl, by simp, fresh_new E _⟩
theorem vrs_dats {B : AS} {ρ : Ev} {S : Sto} : ∀ ds : List D, VRs B ρ S (ds.map .dat) (ds.map .d)
  | [] => .nil
  | d :: r => .cons rfl (vrs_dats r)
theorem newLocs_dats : ∀ (ds : List D), newLocs (ds.map .dat) (ds.map .d) = []
  | [] => rfl
  | d :: r => by simpa [newLocs, newLoc1] using newLocs_dats r
theorem ca_new {e : Ex} {r : La} {κ : List RV → AS → Q β → Prop} (h : CE e A t (fun rv B t' => ∃ o ds, rv = .new o ∧ PA1 r B ds ∧ κ (.new o :: ds.map .dat) B t') Γ) : CA (aCons e r) A t κ Γ := fun ρ S k E hc => by
  simp only [aCons, bind_st]
  refine h ρ S _ E fun r1 v1 B1 S1 t1 h1 E1 q1 => ?_
  obtain ⟨o, ds, rfl, h1, h2⟩ := h1
  simp only [h1 ρ S1 E1, R.st]
  refine hc _ _ _ _ _ h2 E1 (.cons q1 (vrs_dats ds)) ?_
  obtain ⟨_, n, rfl, _, _⟩ := q1
  simp [newLocs, newLoc1, newLocs_dats]
inductive LkA (A : AS) : List RV → List D → Prop
  | nil : LkA A [] []
  | cons {r : RV} {d : D} {rs : List RV} {ds : List D} : LkR A r d → LkA A rs ds → LkA A (r :: rs) (d :: ds)
theorem LkA.look {ρ : Ev} {S : Sto} (E : Env A ρ S) : ∀ {rs : List RV} {ds : List D} {vs : List Val}, LkA A rs ds → VRs A ρ S rs vs → lookAll S vs = some ds
  | _, _, _, .nil, .nil => rfl
  | _, _, _, .cons h t, .cons g s => by
    simp only [lookAll, h.look E (g.one h), LkA.look E t s, Option.bind, Option.map]
theorem ce_cb {op : List D → Option D} {f : La} {κ : RV → AS → Q β → Prop} (h : CA f A t (fun rvs B t' => ∃ ds, LkA B rvs ds ∧ Fin (op ds) B t' κ) Γ) : CE (eCB op f) A t κ Γ := fun ρ S k E hc => by
  simp only [eCB, bind_st]
  refine h ρ S _ E fun rs vs B S1 t1 h1 E1 q1 _ => ?_
  obtain ⟨ds, l, hf⟩ := h1
  simp only [l.look E1 q1, Option.bind]
  exact ref_ofO E1 hf hc
theorem VRs.dats {ρ : Ev} {S : Sto} : ∀ {ds : List D} {vs : List Val}, VRs A ρ S (ds.map .dat) vs → vs = ds.map .d
  | [], _, .nil => rfl
  | d :: ds, _, .cons h t => by cases h; rw [t.dats]; rfl
theorem ce_tup {f : La} {κ : RV → AS → Q β → Prop} (h : CA f A t (fun rvs B t' => ∃ ds, rvs = ds.map .dat ∧ ds.length ≤ 1000 ∧ κ (.dat (.tuple ds)) B t') Γ) : CE (eTup f) A t κ Γ := fun ρ S k E hc => by
  simp only [eTup, bind_st]
  refine h ρ S _ E fun rs vs B S1 t1 h1 E1 q1 _ => ?_
  obtain ⟨ds, rfl, hl, hk⟩ := h1
  simp only [q1.dats, mkSeq, allD_map, hl, if_true, R.st]
  exact hc _ _ _ _ _ hk E1 rfl
theorem ce_lst {f : La} {κ : RV → AS → Q β → Prop} (h : CA f A t (fun rvs B t' => ∃ ds, rvs = ds.map .dat ∧ ds.length ≤ 1000 ∧ κ (.dat (.list ds)) B t') Γ) : CE (eLst f) A t κ Γ := fun ρ S k E hc => by
  simp only [eLst, bind_st]
  refine h ρ S _ E fun rs vs B S1 t1 h1 E1 q1 _ => ?_
  obtain ⟨ds, rfl, hl, hk⟩ := h1
  simp only [q1.dats, mkSeq, allD_map, hl, if_true, R.st]
  exact hc _ _ _ _ _ hk E1 rfl
theorem vr_new {ρ : Ev} {S : Sto} (E : Env A ρ S) (o : O) (hl : lf o = true := by rfl) : VR A ρ (S ++ [some o]) (.new o) (.loc S.length) := vr_new0 E o hl
theorem ce_lstM {f : La} {κ : RV → AS → Q β → Prop} (h : CA f A t (fun rvs B t' => ∃ ds, rvs = ds.map .dat ∧ ds.length ≤ 1000 ∧ κ (.new (.lst ds)) B t') Γ) : CE (eLstM f) A t κ Γ := fun ρ S k E hc => by
  simp only [eLstM, bind_st]
  refine h ρ S _ E fun rs vs B S1 t1 h1 E1 q1 _ => ?_
  obtain ⟨ds, rfl, hl, hk⟩ := h1
  simp only [q1.dats, mkLoc, allD_map, hl, if_true, R.st]
  exact hc _ _ _ _ _ hk (E1.grow _) (vr_new E1 _)
theorem ce_dicM {κ : RV → AS → Q β → Prop} (hk : κ (.new (.dic [])) A t) : CE eDicM A t κ Γ := fun ρ S k E hc =>
  hc _ _ _ _ _ hk (E.grow _) (vr_new E _)
theorem ce_frz {e : Ex} {κ : RV → AS → Q β → Prop} (h : CE e A t (fun rv B t' => (∃ d, rv = .dat d ∧ κ (.dat d) B t') ∨ (∃ o, rv = .new o ∧ κ (.dat (objD o)) B t') ∨ ∃ i o, rv = .sl i ∧ B[i]? = some (some (.ob o)) ∧ κ (.dat (objD o)) (B.set i none) t') Γ) : CE (eFrz e) A t κ Γ := fun ρ S k E hc => by
  simp only [eFrz, bind_st]
  refine h ρ S _ E fun r1 v1 B S1 t1 h1 E1 q1 => ?_
  have off : ∀ {C : AS} {n : Nat}, Env C ρ S1 → Fresh C ρ S1 n → Env C ρ (S1.set n none) := fun {C n} E2 hn => E2.off fun m hm => by
    rw [List.getElem?_set_ne]
    intro e
    subst e; exact hm hn
  rcases h1 with ⟨d, rfl, hk⟩ | ⟨o, rfl, hk⟩ | ⟨i, o, rfl, hi, hk⟩
  · cases q1
    exact hc _ _ _ _ _ hk E1 rfl
  · obtain ⟨hl, n, rfl, hS, hn⟩ := q1
    simp only [frzV, hS, hl, if_true, R.st]
    exact hc _ _ _ _ _ hk (off E1 hn) rfl
  · obtain ⟨n, sv, o', g0, g1, rfl, g4⟩ := q1
    have hl := E1.leaf i _ (.inl hi)
    obtain ⟨w, e1, m, rfl, e3⟩ := E1.at' i _ hi
    rw [g1] at e1; cases e1
    simp only [frzV, e3, hl, if_true, R.st]
    exact hc _ _ _ _ _ hk (off (E1.drop0 i) (E1.freshDrop hi g1)) rfl
theorem ct_pure {e : Te} {b : Bool} {κ : Bool → AS → Q β → Prop} (h : PT1 e A b) (hk : κ b A t) : CT e A t κ Γ := fun ρ S k E hc => by
  rw [h ρ S E]; exact hc _ _ _ _ hk E
theorem ct_of {e : Ex} {κ : Bool → AS → Q β → Prop} (h : CE e A t (fun rv B t' => ∃ b, rv = .dat (.bool b) ∧ κ b B t') Γ) : CT (tOf e) A t κ Γ := fun ρ S k E hc => by
  simp only [tOf, bind_st]
  refine h ρ S _ E fun r1 v1 B S1 t1 h1 E1 q1 => ?_
  obtain ⟨b, rfl, hk⟩ := h1
  cases q1
  exact hc _ _ _ _ hk E1
theorem ct_tru {e : Ex} {κ : Bool → AS → Q β → Prop} (h : CE e A t (fun rv B t' => ∃ d b, Lk B rv d ∧ truthD d = some b ∧ κ b B t') Γ) : CT (tTru e) A t κ Γ := fun ρ S k E hc => by
  simp only [tTru, bind_st]
  refine h ρ S _ E fun r1 v1 B S1 t1 h1 E1 q1 => ?_
  obtain ⟨d, b, l, hb, hk⟩ := h1
  simp only [truV, Lk.look E1 (q1.one l.r) l, Option.bind, hb]
  exact hc _ _ _ _ hk E1
theorem ct_not {e : Te} {κ : Bool → AS → Q β → Prop} (h : CT e A t (fun b B t' => κ (!b) B t') Γ) : CT (tNotE e) A t κ Γ := fun ρ S k E hc => by
  simp only [tNotE, bind_st]
  refine h ρ S _ E fun b B S1 t1 h1 E1 => ?_
  exact hc _ _ _ _ h1 E1
theorem ct_and {e f : Te} {κ : Bool → AS → Q β → Prop} (h : CT e A t (fun b B t' => (b = true → CT f B t' κ Γ) ∧ (b = false → κ false B t')) Γ) : CT (tAndE e f) A t κ Γ := fun ρ S k E hc => by
  simp only [tAndE, bind_st]
  refine h ρ S _ E fun b B S1 t1 h1 E1 => ?_
  cases b with
  | true => exact h1.1 rfl ρ S1 _ E1 hc
  | false => exact hc _ _ _ _ (h1.2 rfl) E1
theorem ct_or {e f : Te} {κ : Bool → AS → Q β → Prop} (h : CT e A t (fun b B t' => (b = false → CT f B t' κ Γ) ∧ (b = true → κ true B t')) Γ) : CT (tOrE e f) A t κ Γ := fun ρ S k E hc => by
  simp only [tOrE, bind_st]
  refine h ρ S _ E fun b B S1 t1 h1 E1 => ?_
  cases b with
  | false => exact h1.1 rfl ρ S1 _ E1 hc
  | true => exact hc _ _ _ _ (h1.2 rfl) E1
theorem ce_and {e f : Ex} {κ : RV → AS → Q β → Prop} (h : CE e A t (fun r B t' => ∃ b, r = .dat (.bool b) ∧ (b = true → CE f B t' κ Γ) ∧ (b = false → κ (.dat (.bool false)) B t')) Γ) : CE (eAnd e f) A t κ Γ := fun ρ S k E hc => by
  simp only [eAnd, bind_st]
  refine h ρ S _ E fun r v B S1 t1 h1 E1 q1 => ?_
  obtain ⟨b, rfl, h1⟩ := h1
  cases q1
  cases b with
  | true => exact h1.1 rfl ρ S1 _ E1 hc
  | false => exact hc _ _ _ _ _ (h1.2 rfl) E1 rfl
noncomputable def Gj {σ : Type} (Γ : Gx β) (F : σ → RV) (AL : σ → AS) : Gx σ where
  G := fun fl s => match fl with
    | .nx B => Weak B (AL s)
    | .rt rv _ => rv = F s
    | _ => False
  E := Γ.E
theorem ce_join {σ : Type} {e : Ex} {q : Q σ} {t2 : σ → Q β} {κ : RV → AS → Q β → Prop} (F : σ → D) (AL : σ → AS)
    (h : CE e A q (fun rv B t => ∃ s, t = .ok s ∧ rv = .dat (F s) ∧ Weak B (AL s)) (Gj Γ (fun s => .dat (F s)) AL)) (hk : ∀ s, κ (.dat (F s)) (AL s) (t2 s)) : CE e A (q.bind t2) κ Γ := fun ρ S k E hc => by
  have k1 := h ρ S (fun v S' => .ok (.rt v) S') E fun rv v B S' t' ⟨s, h1, h2, h3⟩ E1 q1 => by
    subst h1; exact ⟨.rt rv B, ⟨ρ, E1, q1⟩, h2⟩
  have k2 := h ρ S (fun v S' => .ok (.nx ρ) S') E fun rv v B S' t' ⟨s, h1, h2, h3⟩ E1 q1 => by
    subst h1; exact ⟨.nx B, E1, h3⟩
  cases q with
  | bad => trivial
  | exc x os =>
    obtain ⟨ρ1, S1, B, e1, e2, e3⟩ := k1
    cases he : e ρ S with
    | bad => rw [he] at e1; cases e1
    | ok v S' => rw [he] at e1; cases e1
    | exc y S' =>
      rw [he] at e1; simp only [R.st] at e1; cases e1
      exact ⟨_, _, B, rfl, e2, e3⟩
  | ok s =>
    obtain ⟨fl, m1, g1⟩ := k1
    obtain ⟨fl2, m2, g2⟩ := k2
    cases he : e ρ S with
    | bad => rw [he] at m1; exact m1.elim
    | exc y S' => rw [he] at m1; exact m1.elim
    | ok v S' =>
      rw [he] at m1 m2
      simp only [R.st] at m1 m2 ⊢
      cases fl with
      | rt rv B =>
        obtain ⟨ρ', E', q'⟩ := m1
        cases fl2 with
        | nx B2 =>
          cases (show rv = .dat (F s) from g1)
          cases q'
          exact hc _ _ _ _ _ (hk s) ((show Env B2 ρ S' from m2).weak g2) rfl
        | _ => exact m2.elim
      | _ => exact m1.elim
theorem ct_join {σ : Type} {e : Te} {q : Q σ} {t2 : σ → Q β} {κ : Bool → AS → Q β → Prop} (F : σ → Bool) (AL : σ → AS)
    (h : CT e A q (fun b B t => ∃ s, t = .ok s ∧ b = F s ∧ Weak B (AL s)) (Gj Γ (fun s => .dat (.bool (F s))) AL)) (hk : ∀ s, κ (F s) (AL s) (t2 s)) : CT e A (q.bind t2) κ Γ := fun ρ S k E hc => by
  have k1 := h ρ S (fun b S' => .ok (.rt (.d (.bool b))) S') E fun b B S' t' ⟨s, h1, h2, h3⟩ E1 => by
    subst h1 h2; exact ⟨.rt (.dat (.bool (F s))) B, ⟨ρ, E1, rfl⟩, rfl⟩
  have k2 := h ρ S (fun v S' => .ok (.nx ρ) S') E fun b B S' t' ⟨s, h1, h2, h3⟩ E1 => by
    subst h1; exact ⟨.nx B, E1, h3⟩
  cases q with
  | bad => trivial
  | exc x os =>
    obtain ⟨ρ1, S1, B, e1, e2, e3⟩ := k1
    cases he : e ρ S with
    | bad => rw [he] at e1; cases e1
    | ok v S' => rw [he] at e1; cases e1
    | exc y S' =>
      rw [he] at e1; simp only [R.st] at e1; cases e1
      exact ⟨_, _, B, rfl, e2, e3⟩
  | ok s =>
    obtain ⟨fl, m1, g1⟩ := k1
    obtain ⟨fl2, m2, g2⟩ := k2
    cases he : e ρ S with
    | bad => rw [he] at m1; exact m1.elim
    | exc y S' => rw [he] at m1; exact m1.elim
    | ok v S' =>
      rw [he] at m1 m2
      simp only [R.st] at m1 m2 ⊢
      cases fl with
      | rt rv B =>
        obtain ⟨ρ', E', q'⟩ := m1
        cases fl2 with
        | nx B2 =>
          cases (show rv = .dat (.bool (F s)) from g1)
          cases q'
          exact hc _ _ _ _ (hk s) ((show Env B2 ρ S' from m2).weak g2)
        | _ => exact m2.elim
      | _ => exact m1.elim
end
end DL
namespace DL
open PySem L2
section
variable {β : Type} {Γ : Gx β} {A : AS} {t : Q β}
theorem cb_seq {b c : Blk} {κ : AS → Q β → Prop} (h : CB b A t (fun B t' => CB c B t' κ Γ) Γ) : CB (sSeq b c) A t κ Γ := fun ρ S k E hc => by
  have : (sSeq b c ρ S).fl k = (b ρ S).fl fun ρ' S' => (c ρ' S').fl k := by
    unfold sSeq
    cases b ρ S with
    | ok f S' => cases f <;> rfl
    | exc x S' => rfl
    | bad => rfl
  rw [this]
  exact h ρ S _ E fun B ρ' S' t' h1 E1 => h1 ρ' S' k E1 hc
theorem cb_nil {κ : AS → Q β → Prop} (h : κ A t) : CB sNil A t κ Γ := fun ρ S k E hc => hc _ _ _ _ h E
theorem cb_expr {e : Ex} {κ : AS → Q β → Prop} (h : CE e A t (fun _ B t' => κ B t') Γ) : CB (sExpr e) A t κ Γ := fun ρ S k E hc => by
  simp only [sExpr, st_fl]
  exact h ρ S _ E fun rv v B S' t' h1 E1 _ => hc _ _ _ _ h1 E1
theorem cb_set {i : Nat} {e : Ex} {κ : AS → Q β → Prop} (h : CE e A t (fun rv B t' => (∃ d, rv = .dat d ∧ κ (B.set i (some (.dat d))) t') ∨ ∃ o, rv = .new o ∧ κ (B.set i (some (.ob o))) t') Γ) : CB (sSet i e) A t κ Γ := fun ρ S k E hc => by
  simp only [sSet, st_fl]
  refine h ρ S _ E fun rv v B S' t' h1 E1 q1 => ?_
  rcases h1 with ⟨d, rfl, hk⟩ | ⟨o, rfl, hk⟩
  · cases q1
    exact hc _ _ _ _ hk (E1.setD i d)
  · obtain ⟨hl, n, rfl, hS, hn⟩ := q1
    exact hc _ _ _ _ hk (E1.setN i n o hS hl hn)
theorem cb_setP {α : Type} {i : Nat} {e : Ex} {x : α} {t2 : α → Q β} {κ : AS → Q β → Prop} (f : α → D) (h : PE1 e A (f x)) (hk : ∀ y, κ (A.set i (some (.dat (f y)))) (t2 y)) : CB (sSet i e) A ((Q.ok x).bind t2) κ Γ :=
  cb_set (ce_pure h (.inl ⟨_, rfl, hk x⟩))
theorem cb_ret {e : Ex} {κ : AS → Q β → Prop} (h : CE e A t (fun rv B t' => ∃ a, t' = .ok a ∧ Γ.G (.rt rv B) a) Γ) : CB (sRet e) A t κ Γ := fun ρ S k E hc => by
  simp only [sRet, st_fl]
  refine h ρ S _ E fun rv v B S' t' h1 E1 q1 => ?_
  obtain ⟨a, rfl, hg⟩ := h1
  exact ⟨.rt rv B, ⟨ρ, E1, q1⟩, hg⟩
theorem cb_if {te : Te} {b c : Blk} {κ : AS → Q β → Prop} (h : CT te A t (fun z B t' => (z = true → CB b B t' κ Γ) ∧ (z = false → CB c B t' κ Γ)) Γ) : CB (sIf te b c) A t κ Γ := fun ρ S k E hc => by
  simp only [sIf, st_fl]
  refine h ρ S _ E fun z B S' t' h1 E1 => ?_
  cases z with
  | true => exact h1.1 rfl ρ S' k E1 hc
  | false => exact h1.2 rfl ρ S' k E1 hc
theorem cond_split {z : Bool} {b c : Blk} {κ : AS → Q β → Prop} {t1 t2 : Q β} (h1 : z = true → CB b A t1 κ Γ) (h2 : z = false → CB c A t2 κ Γ) :
    (z = true → CB b A (if z = true then t1 else t2) κ Γ) ∧ (z = false → CB c A (if z = true then t1 else t2) κ Γ) :=
  ⟨fun h => by rw [if_pos h]; exact h1 h, fun h => by rw [if_neg (by rw [h]; decide)]; exact h2 h⟩
theorem and_ct {z : Bool} {f : Te} {κ : Bool → AS → Q β → Prop} {t1 t2 : Q β} (h1 : z = true → CT f A t1 κ Γ) (h2 : z = false → κ false A t2) :
    (z = true → CT f A (if z = true then t1 else t2) κ Γ) ∧ (z = false → κ false A (if z = true then t1 else t2)) :=
  ⟨fun h => by rw [if_pos h]; exact h1 h, fun h => by rw [if_neg (by rw [h]; decide)]; exact h2 h⟩
theorem or_ct {z : Bool} {f : Te} {κ : Bool → AS → Q β → Prop} {t1 t2 : Q β} (h1 : z = true → κ true A t1) (h2 : z = false → CT f A t2 κ Γ) :
    (z = false → CT f A (if z = true then t1 else t2) κ Γ) ∧ (z = true → κ true A (if z = true then t1 else t2)) :=
  ⟨fun h => by rw [if_neg (by rw [h]; decide)]; exact h2 h, fun h => by rw [if_pos h]; exact h1 h⟩
theorem and_ce {z : Bool} {f : Ex} {κ : RV → AS → Q β → Prop} {v : RV} {t1 t2 : Q β} (h1 : z = true → CE f A t1 κ Γ) (h2 : z = false → κ v A t2) :
    (z = true → CE f A (if z = true then t1 else t2) κ Γ) ∧ (z = false → κ v A (if z = true then t1 else t2)) :=
  ⟨fun h => by rw [if_pos h]; exact h1 h, fun h => by rw [if_neg (by rw [h]; decide)]; exact h2 h⟩
theorem ch_ce {z : Bool} {f : Ex} {op' : D → D → Option D} {d2 : D} {κ : RV → AS → Q β → Prop} {v : RV} {t1 t2 : Q β} (h1 : z = true → CE f A t1 (fun r3 A3 t3 => ∃ d3, r3 = .dat d3 ∧ Fin (op' d2 d3) A3 t3 κ) Γ) (h2 : z = false → κ v A t2) :
    (z = true → CE f A (if z = true then t1 else t2) (fun r3 A3 t3 => ∃ d3, r3 = .dat d3 ∧ Fin (op' d2 d3) A3 t3 κ) Γ) ∧ (z = false → κ v A (if z = true then t1 else t2)) :=
  ⟨fun h => by rw [if_pos h]; exact h1 h, fun h => by rw [if_neg (by rw [h]; decide)]; exact h2 h⟩
theorem cb_raise {x : XV} {os : List TO} {κ : AS → Q β → Prop} (h : Γ.E A os) : CB (sRaise x) A (.exc x os) κ Γ := fun ρ S k E hc => ⟨ρ, S, A, rfl, E, h⟩
theorem cb_frz {i : Nat} {o : O} {b : Blk} {κ : AS → Q β → Prop} (hi : A[i]? = some (some (.ob o))) (h : CB b (A.set i (some (.dat (objD o)))) t κ Γ) : CB (sFrz i b) A t κ Γ := fun ρ S k E hc => by
  obtain ⟨v, h1, n, rfl, h3⟩ := E.at' i _ hi
  simp only [sFrz, h1, h3, E.leaf i _ (.inl hi), if_true]
  refine h _ _ k ?_ hc
  have E2 : Env (A.set i none) ρ (S.set n none) := (E.drop0 i).off fun m hm => by
    rw [List.getElem?_set_ne]
    intro e
    subst e; exact hm (E.freshDrop hi h1)
  have := E2.setD i (objD o)
  rwa [List.set_set] at this
noncomputable def CG {β : Type} (g : Tg) (d : D) (A : AS) (t : Q β) (κ : AS → Q β → Prop) (Γ : Gx β) : Prop :=
  ∀ ρ S ρ0 k, Env A ρ S → (∀ B ρ' S' t', κ B t' → Env B ρ' S' → Ref Γ (k ρ' S') t') → Ref Γ (((g (.d d) ρ S).noX).st ρ0 k) t
noncomputable def CGs {β : Type} (g : Tgs) (ds : List D) (A : AS) (t : Q β) (κ : AS → Q β → Prop) (Γ : Gx β) : Prop :=
  ∀ ρ S ρ0 k, Env A ρ S → (∀ B ρ' S' t', κ B t' → Env B ρ' S' → Ref Γ (k ρ' S') t') → Ref Γ (((g ds ρ S).noX).st ρ0 k) t
theorem noX_bind {α γ : Type} (r : R α) (f : α → Sto → R γ) (ρ : Ev) (k : γ → Sto → R Flow) : ((r.bind f).noX).st ρ k = (r.noX).st ρ fun a S => ((f a S).noX).st ρ k := by cases r <;> rfl
theorem cg_nm {i : Nat} {d : D} {κ : AS → Q β → Prop} (h : κ (A.set i (some (.dat d))) t) : CG (gNm i) d A t κ Γ := fun ρ S ρ0 k E hc => hc _ _ _ _ h (E.setD i d)
theorem cg_tp {n : Nat} {gs : Tgs} {ds : List D} {κ : AS → Q β → Prop} (hl : ds.length = n) (h : CGs gs ds A t κ Γ) : CG (gTp n gs) (.tuple ds) A t κ Γ := fun ρ S ρ0 k E hc => by
  simp only [gTp, hl, if_true]; exact h ρ S ρ0 k E hc
theorem cgs_nil {κ : AS → Q β → Prop} (h : κ A t) : CGs gsNil [] A t κ Γ := fun ρ S ρ0 k E hc => hc _ _ _ _ h E
theorem cgs_cons {g : Tg} {gs : Tgs} {d : D} {ds : List D} {κ : AS → Q β → Prop} (h : CG g d A t (fun B t' => CGs gs ds B t' κ Γ) Γ) : CGs (gsCons g gs) (d :: ds) A t κ Γ := fun ρ S ρ0 k E hc => by
  show Ref Γ ((((g (.d d) ρ S).bind fun ρ1 S1 => gs ds ρ1 S1).noX).st ρ0 k) t
  rw [noX_bind]
  exact h ρ S ρ0 _ E fun B ρ' S' t' h1 E1 => h1 ρ' S' ρ0 k E1 hc
theorem cb_asg {e : Ex} {g : Tg} {κ : AS → Q β → Prop} (h : CE e A t (fun rv B t' => ∃ d, rv = .dat d ∧ CG g d B t' κ Γ) Γ) : CB (sAsg e g) A t κ Γ := fun ρ S k E hc => by
  simp only [sAsg, st_fl]
  refine h ρ S _ E fun rv v B S' t' h1 E1 q1 => ?_
  obtain ⟨d, rfl, hk⟩ := h1
  cases q1
  exact hk ρ S' ρ _ E1 fun C ρ' S' t' h1 E1 => hc _ _ _ _ h1 E1
theorem par_env {ρ : Ev} {S : Sto} : ∀ {B : AS} {ρ : Ev}, Env B ρ S → ∀ (is : List Nat) (ds : List D), ds.length = is.length →
    Env ((is.zip ds).foldl (fun r p => r.set p.1 (some (.dat p.2))) B) ((is.zip (ds.map Val.d)).foldl (fun r p => r.set p.1 (some p.2)) ρ) S
  | _, _, E, [], _, _ => E
  | _, _, E, i :: is, [], h => by simp at h
  | _, _, E, i :: is, d :: ds, h => par_env (ρ := ρ) (E.setD i d) is ds (by simpa using h)
theorem cb_par {is : List Nat} {f : La} {κ : AS → Q β → Prop} (h : CA f A t (fun rvs B t' => ∃ ds, rvs = ds.map .dat ∧ ds.length = is.length ∧ κ ((is.zip ds).foldl (fun r p => r.set p.1 (some (.dat p.2))) B) t') Γ) : CB (sPar is f) A t κ Γ := fun ρ S k E hc => by
  simp only [sPar, st_fl]
  refine h ρ S _ E fun rs vs B S' t' h1 E1 q1 _ => ?_
  obtain ⟨ds, rfl, hl, hk⟩ := h1
  rw [q1.dats]
  simp only [List.length_map, hl, if_true]
  refine hc _ _ _ _ hk ?_
  exact par_env (ρ := ρ) E1 is ds hl
inductive Ob (A : AS) (i : Nat) (o : O) (sv : SV) : Prop
  | m (h : A[i]? = some (some (.ob o))) (e : sv = .ob o) : Ob A i o sv
  | p (j : Nat) (h : A[i]? = some (some (.par j o))) (e : sv = .par j o) : Ob A i o sv
theorem Ob.sv {i : Nat} {o : O} {sv : SV} (h : Ob A i o sv) : ∃ o0, sv = .ob o0 ∨ ∃ j, sv = .par j o0 := by
  rcases h with ⟨_, rfl⟩ | ⟨j, _, rfl⟩
  · exact ⟨o, .inl rfl⟩
  · exact ⟨o, .inr ⟨j, rfl⟩⟩
theorem Ob.get {i : Nat} {o : O} {sv : SV} (h : Ob A i o sv) {ρ : Ev} {S : Sto} (E : Env A ρ S) : ∃ n, A[i]? = some (some sv) ∧ ρ[i]? = some (some (.loc n)) ∧ S[n]? = some (some o) := by
  rcases h with ⟨h, rfl⟩ | ⟨j, h, rfl⟩
  · obtain ⟨v, h1, n, rfl, h3⟩ := E.at' i _ h; exact ⟨n, h, h1, h3⟩
  · obtain ⟨v, h1, rfl, h3⟩ := E.at' i _ h; exact ⟨j, h, h1, h3⟩
theorem eVar_st {ρ : Ev} {S : Sto} {i : Nat} {v : Val} {ρ0 : Ev} {k : Val → Sto → R Flow} (h : ρ[i]? = some (some v)) : ((eVar i ρ S).st ρ0 k) = k v S := by simp only [eVar, h, R.st]
@[irreducible] noncomputable def roomT (n : Nat) : Option Unit := if n < sizeLine then some () else none
theorem cb_app {α : Type} {i : Nat} {e : Ex} {ds0 : List D} {sv0 : SV} {κ : AS → Q β → Prop} (f : α → D) (hi : Ob A i (.lst ds0) sv0)
    (h : CE e A t (fun rv B t' => ∃ (xs : List α) (x : α) (sv : SV) (k : Unit → Q β), rv = .dat (f x) ∧ Ob B i (.lst (xs.map f)) sv ∧ t' = (Q.of (roomT xs.length)).bind k ∧ κ (B.set i (some (sv.wo (.lst ((xs ++ [x]).map f))))) (k ())) Γ) :
    CB (sExpr (eApp (eVar i) e)) A t κ Γ := fun ρ S k E hc => by
  obtain ⟨n, g0, g1, g2⟩ := hi.get E
  have hl : isLst S (.loc n) = true := by simp only [isLst, g2]
  simp only [sExpr, st_fl, eApp, bind_st]
  rw [eVar_st g1, hl]
  show Ref Γ (((e ρ S).bind fun w S2 => appL (.loc n) w S2).st ρ _) t
  rw [bind_st]
  refine h ρ S _ E fun rv v B S' t' h1 E1 q1 => ?_
  obtain ⟨xs, x, sv, k2, rfl, ho, rfl, hk⟩ := h1
  cases q1
  obtain ⟨m, e0, e1, e2⟩ := ho.get E1
  rw [g1] at e1; cases e1
  unfold roomT
  by_cases hz : xs.length < sizeLine
  · rw [if_pos hz]
    simp only [appL, e2, List.length_map, hz, if_true, R.st, Q.of_some, Q.ok_bind]
    have := E1.setO (.lst ((xs ++ [x]).map f)) e0 g1 ho.sv rfl
    refine hc _ _ _ _ hk ?_
    simpa using this
  · rw [if_neg hz]; trivial
noncomputable def setT {α : Type} (xs : List α) (i : Int) (x : α) : Option (List α) := (ixN xs.length i).map fun j => xs.set j x
theorem cb_put {α : Type} {i : Nat} {ei e : Ex} {κ : AS → Q β → Prop} (f : α → D)
    (h : CE e A t (fun rv A1 t1 => IsOb A1 i ∧ CE ei A1 t1 (fun rj B t' => ∃ (j : Int) (xs : List α) (x : α) (sv : SV) (k : List α → Q β), rj = .dat (.int j) ∧ rv = .dat (f x) ∧ Ob B i (.lst (xs.map f)) sv ∧ t' = (Q.of (setT xs j x)).bind k ∧ ∀ ys, κ (B.set i (some (sv.wo (.lst (ys.map f))))) (k ys)) Γ) Γ) :
    CB (sPut setL (eVar i) ei e) A t κ Γ := fun ρ S k E hc => by
  simp only [sPut, st_fl]
  refine h ρ S _ E fun rv v A1 S1 t1 h1 E1 q1 => ?_
  obtain ⟨n, sv0, o0, g0, g1, g2, g3⟩ := h1.1.at E1
  rw [eVar_st g1]
  refine h1.2 ρ S1 _ E1 fun rj v2 B S' t' h2 E2 q2 => ?_
  obtain ⟨j, xs, x, sv, k2, rfl, rfl, ho, rfl, hk⟩ := h2
  cases q1; cases q2
  obtain ⟨m, e0, e1, e2⟩ := ho.get E2
  rw [g1] at e1; cases e1
  simp only [setL, e2, setT, List.length_map]
  cases ixN xs.length j with
  | none => trivial
  | some jj =>
    simp only [R.st, R.fl, Option.map, Q.of_some, Q.ok_bind]
    refine hc _ _ _ _ (hk _) ?_
    rw [show (xs.map f).set jj (f x) = (xs.set jj x).map f from List.map_set.symm]
    exact E2.setO _ e0 g1 ho.sv rfl
theorem cg_put {α : Type} {i : Nat} {ei : Ex} {j : Int} {xs : List α} {x : α} {sv : SV} {k : List α → Q β} {κ : AS → Q β → Prop} (f : α → D) (ho : Ob A i (.lst (xs.map f)) sv) (hj : PE1 ei A (.int j)) (hk : ∀ ys, κ (A.set i (some (sv.wo (.lst (ys.map f))))) (k ys)) :
    CG (gSb setL (eVar i) ei) (f x) A ((Q.of (setT xs j x)).bind k) κ Γ := fun ρ S ρ0 k' E hc => by
  obtain ⟨m, e0, e1, e2⟩ := ho.get E
  simp only [gSb, eVar, e1, R.noX, R.bind, hj ρ S E, setL, e2, setT, List.length_map]
  cases ixN xs.length j with
  | none => trivial
  | some jj =>
    simp only [R.st, R.bind, R.noX, Option.map, Q.of_some, Q.ok_bind]
    refine hc _ _ _ _ (hk _) ?_
    rw [show (xs.map f).set jj (f x) = (xs.set jj x).map f from List.map_set.symm]
    exact E.setO _ e0 e1 ho.sv rfl
noncomputable def dicE {α : Type} (f : α → D) (m : List (Int × α)) : List (Key × D) := m.map fun p => (Sum.inl p.1, f p.2)
noncomputable def putT {α : Type} (m : List (Int × α)) (k : Int) (v : α) : List (Int × α) := if m.any (fun p => decide (p.1 = k)) then m.map (fun p => if p.1 = k then (p.1, v) else p) else m ++ [(k, v)]
theorem putKD_E {α : Type} (f : α → D) (m : List (Int × α)) (k : Int) (v : α) : putKD (dicE f m) (.inl k) (f v) = dicE f (putT m k v) := by
  have e : (dicE f m).any (fun kv => decide (kv.1 = (Sum.inl k : Key))) = m.any (fun p => decide (p.1 = k)) := by
    simp only [dicE, List.any_map]
    congr 1; funext p
    simp
  unfold putKD putT
  rw [e]
  split
  · simp only [dicE, List.map_map]
    apply List.map_congr_left
    intro p _
    simp only [Function.comp]
    by_cases h : p.1 = k
    · simp [h]
    · simp [h]
  · simp [dicE]
theorem cb_putD {α : Type} {i : Nat} {ei e : Ex} {κ : AS → Q β → Prop} (f : α → D)
    (h : CE e A t (fun rv A1 t1 => IsOb A1 i ∧ CE ei A1 t1 (fun rj B t' => ∃ (j : Int) (m : List (Int × α)) (x : α) (sv : SV) (k : Unit → Q β), rj = .dat (.int j) ∧ rv = .dat (f x) ∧ Ob B i (.dic (dicE f m)) sv ∧ t' = (Q.of (roomT m.length)).bind k ∧ κ (B.set i (some (sv.wo (.dic (dicE f (putT m j x)))))) (k ())) Γ) Γ) :
    CB (sPut setD (eVar i) ei e) A t κ Γ := fun ρ S k E hc => by
  simp only [sPut, st_fl]
  refine h ρ S _ E fun rv v A1 S1 t1 h1 E1 q1 => ?_
  obtain ⟨n, sv0, o0, g0, g1, g2, g3⟩ := h1.1.at E1
  rw [eVar_st g1]
  refine h1.2 ρ S1 _ E1 fun rj v2 B S' t' h2 E2 q2 => ?_
  obtain ⟨j, m, x, sv, k2, rfl, rfl, ho, rfl, hk⟩ := h2
  cases q1; cases q2
  obtain ⟨m', e0, e1, e2⟩ := ho.get E2
  rw [g1] at e1; cases e1
  have hl : (dicE f m).length = m.length := by simp [dicE]
  unfold roomT
  by_cases hz : m.length < sizeLine
  · rw [if_pos hz]
    simp only [setD, e2, keyOf, hl, hz, if_true, R.st, R.fl, Q.of_some, Q.ok_bind]
    refine hc _ _ _ _ hk ?_
    rw [putKD_E]
    exact E2.setO _ e0 g1 ho.sv rfl
  · rw [if_neg hz]; trivial
noncomputable def Gb {σ : Type} (Γ : Gx β) (AL : σ → AS) : Gx σ where
  G := fun fl s => match fl with
    | .nx B => Weak B (AL s)
    | .ct B => Weak B (AL s)
    | _ => False
  E := Γ.E
theorem fl_id (r : R Flow) : r.fl (fun ρ S => .ok (.nx ρ) S) = r := by
  cases r with
  | ok f S => cases f <;> rfl
  | exc x S => rfl
  | bad => rfl
noncomputable def Gj1 {σ : Type} (Γ : Gx β) (AL : σ → AS) : Gx σ where
  G := fun fl s => match fl with
    | .nx B => Weak B (AL s)
    | _ => False
  E := Γ.E
theorem cb_join {σ : Type} {b : Blk} {q : Q σ} {t2 : σ → Q β} {κ : AS → Q β → Prop} (AL : σ → AS)
    (h : CB b A q (fun B t => ∃ s, t = .ok s ∧ Weak B (AL s)) (Gj1 Γ AL)) (hk : ∀ s, κ (AL s) (t2 s)) : CB b A (q.bind t2) κ Γ := fun ρ S k E hc => by
  have k1 := h ρ S (fun ρ' S' => .ok (.nx ρ') S') E fun B ρ' S' t' ⟨s, h1, h2⟩ E1 => by
    subst h1; exact ⟨.nx B, E1, h2⟩
  rw [fl_id] at k1
  cases q with
  | bad => trivial
  | exc x os =>
    obtain ⟨ρ1, S1, B, e1, e2, e3⟩ := k1
    rw [e1]
    exact ⟨_, _, B, rfl, e2, e3⟩
  | ok s =>
    obtain ⟨fl, m1, g1⟩ := k1
    cases fl with
    | nx B =>
      cases he : b ρ S with
      | ok f S' =>
        rw [he] at m1
        cases f with
        | nx ρ' => exact hc _ _ _ _ (hk s) ((show Env B ρ' S' from m1).weak g1)
        | _ => exact m1.elim
      | exc x S' => rw [he] at m1; exact m1.elim
      | bad => rw [he] at m1; exact m1.elim
    | _ => exact g1.elim
inductive LF (σ ρ : Type) where
  | nx (s : σ) | bk (s : σ) | rt (r : ρ)
noncomputable def Q.lf {σ ρ β : Type} (q : Q (LF σ ρ)) (k : σ → Q β) (kr : ρ → Q β) : Q β := q.bind fun l => match l with
  | .nx s => k s
  | .bk s => k s
  | .rt r => kr r
@[simp] theorem Q.lf_nx {σ ρ β : Type} (s : σ) (k : σ → Q β) (kr : ρ → Q β) : (Q.ok (LF.nx s)).lf k kr = k s := by simp only [Q.lf, Q.ok_bind, Q.bad_bind]
@[simp] theorem Q.lf_bk {σ ρ β : Type} (s : σ) (k : σ → Q β) (kr : ρ → Q β) : (Q.ok (LF.bk s)).lf k kr = k s := by simp only [Q.lf, Q.ok_bind, Q.bad_bind]
@[simp] theorem Q.lf_rt {σ ρ β : Type} (r : ρ) (k : σ → Q β) (kr : ρ → Q β) : (Q.ok (LF.rt r)).lf k kr = kr r := by simp only [Q.lf, Q.ok_bind, Q.bad_bind]
@[simp] theorem Q.lf_bad {σ ρ β : Type} (k : σ → Q β) (kr : ρ → Q β) : (Q.bad : Q (LF σ ρ)).lf k kr = .bad := by simp only [Q.lf, Q.ok_bind, Q.bad_bind]
noncomputable def Glf {σ ρ : Type} (Γ : Gx β) (AL : σ → AS) (GR : RV → AS → ρ → Prop) : Gx (LF σ ρ) where
  G := fun fl l => match fl, l with
    | .nx B, .nx s => Weak B (AL s)
    | .ct B, .nx s => Weak B (AL s)
    | .bk B, .bk s => Weak B (AL s)
    | .rt v B, .rt r => GR v B r
    | _, _ => False
  E := Γ.E
theorem cb_joinR {σ ρr : Type} {b : Blk} {q : Q (LF σ ρr)} {t2 : σ → Q β} {t3 : ρr → Q β} {κ : AS → Q β → Prop} (AL : σ → AS) (GR : RV → AS → ρr → Prop)
    (h : CB b A q (fun B t => ∃ s, t = .ok (.nx s) ∧ Weak B (AL s)) ⟨fun fl l => match fl, l with | .nx B, .nx s => Weak B (AL s) | .rt v B, .rt r => GR v B r | _, _ => False, Γ.E⟩) (hk : ∀ s, κ (AL s) (t2 s))
    (hr : ∀ v B r, GR v B r → ∃ a, t3 r = .ok a ∧ Γ.G (.rt v B) a) : CB b A (q.lf t2 t3) κ Γ := fun ρ S k E hc => by
  have k1 := h ρ S (fun ρ' S' => .ok (.nx ρ') S') E fun B ρ' S' t' ⟨s, h1, h2⟩ E1 => by
    subst h1; exact ⟨.nx B, E1, h2⟩
  rw [fl_id] at k1
  cases q with
  | bad => trivial
  | exc x os =>
    obtain ⟨ρ1, S1, B, e1, e2, e3⟩ := k1
    rw [e1]
    exact ⟨_, _, B, rfl, e2, e3⟩
  | ok l =>
    obtain ⟨fl, m1, g1⟩ := k1
    cases fl with
    | nx B =>
      cases l with
      | nx s =>
        cases he : b ρ S with
        | ok f S' =>
          rw [he] at m1
          cases f with
          | nx ρ' => exact hc _ _ _ _ (hk s) ((show Env B ρ' S' from m1).weak g1)
          | _ => exact m1.elim
        | exc x S' => rw [he] at m1; exact m1.elim
        | bad => rw [he] at m1; exact m1.elim
      | _ => exact g1.elim
    | rt v B =>
      cases l with
      | rt r =>
        cases he : b ρ S with
        | ok f S' =>
          rw [he] at m1
          cases f with
          | rt ρ' =>
            obtain ⟨a, e, g⟩ := hr _ _ _ g1
            rw [Q.lf_rt, e]
            exact ⟨.rt v B, m1, g⟩
          | _ => exact m1.elim
        | exc x S' => rw [he] at m1; exact m1.elim
        | bad => rw [he] at m1; exact m1.elim
      | _ => exact g1.elim
    | bk B => cases l <;> exact g1.elim
    | ct B => cases l <;> exact g1.elim
end
end DL
namespace DL
open PySem L2
noncomputable def irange (i j : Int) : List Int := (List.range (j - i).toNat).map fun k => i + (k : Nat)
@[irreducible] noncomputable def rgT (i j : Int) : Option (List Int) := if -4611686018427387904 ≤ i ∧ i < 4611686018427387904 ∧ -4611686018427387904 ≤ j ∧ j < 4611686018427387904 ∧ j - i ≤ 1000000 then some (irange i j) else none
theorem rgI_T (i j : Int) : rgI i j = (rgT i j).map fun xs => xs.map PyData.int := by
  unfold rgI rgT
  split
  · simp [rangeD, irange]
  · rfl
noncomputable def enumT {α : Type} : Int → List α → List (Int × α)
  | _, [] => []
  | k, x :: r => (k, x) :: enumT (k + 1) r
theorem enumD_T {α : Type} (f : α → D) : ∀ (k : Nat) (xs : List α), enumD k (xs.map f) = (enumT (k : Int) xs).map fun p => .tuple [.int p.1, f p.2]
  | _, [] => rfl
  | k, x :: r => by simp only [List.map_cons, enumD, enumT, enumD_T f (k + 1) r]; rfl
theorem enum_T {α : Type} (f : α → D) (xs : List α) : enumD 0 (xs.map f) = (enumT 0 xs).map fun p => .tuple [.int p.1, f p.2] := enumD_T f 0 xs
theorem zip_T {α γ : Type} (f : α → D) (g : γ → D) : ∀ (xs : List α) (ys : List γ), zipD (xs.map f) (ys.map g) = (xs.zip ys).map fun p => .tuple [f p.1, g p.2]
  | [], _ => rfl
  | _ :: _, [] => rfl
  | x :: xs, y :: ys => by
    have := zip_T f g xs ys
    simp only [zipD] at this
    simp only [zipD, List.map_cons, List.zipWith_cons_cons, List.zip_cons_cons, this]
section
variable {β : Type} {Γ : Gx β} {A : AS} {t : Q β}
theorem ci_seq {e : Ex} {κ : List D → AS → Q β → Prop} (h : CE e A t (fun rv B t' => ∃ ds, (rv = .dat (.list ds) ∨ rv = .dat (.tuple ds) ∨ rv = .scr ds) ∧ κ ds B t') Γ) : CI (itSeq e) A t κ Γ := fun ρ S k E hc => by
  simp only [itSeq, bind_st]
  refine h ρ S _ E fun rv v B S' t' h1 E1 q1 => ?_
  obtain ⟨ds, rfl | rfl | rfl, hk⟩ := h1 <;> cases q1 <;> exact hc _ _ _ _ hk E1
theorem VRs.one {ρ : Ev} {S : Sto} {r : RV} {vs : List Val} (h : VRs A ρ S [r] vs) : ∃ v, vs = [v] ∧ VR A ρ S r v := by
  cases h with
  | cons h t => cases t; exact ⟨_, rfl, h⟩
theorem VRs.two {ρ : Ev} {S : Sto} {r r' : RV} {vs : List Val} (h : VRs A ρ S [r, r'] vs) : ∃ v v', vs = [v, v'] ∧ VR A ρ S r v ∧ VR A ρ S r' v' := by
  cases h with
  | cons h t => cases t with
    | cons h' t => cases t; exact ⟨_, _, rfl, h, h'⟩
theorem ref_ofL {ρ : Ev} {S : Sto} {i j : Int} {κ : List D → AS → Q β → Prop} {k' : List D → Sto → R Flow} {k : List Int → Q β} (E : Env A ρ S)
    (hc : ∀ ds B S' t', κ ds B t' → Env B ρ S' → Ref Γ (k' ds S') t') (hk : ∀ xs, κ (xs.map .int) A (k xs)) : Ref Γ ((ofL (rgI i j) S).st ρ k') ((Q.of (rgT i j)).bind k) := by
  rw [rgI_T]
  cases rgT i j with
  | none => trivial
  | some xs => exact hc _ _ _ _ (hk xs) E
theorem ci_r1 {f : La} {κ : List D → AS → Q β → Prop} (h : CA f A t (fun rvs B t' => ∃ j k, rvs = [.dat (.int j)] ∧ t' = (Q.of (rgT 0 j)).bind k ∧ ∀ xs, κ (xs.map .int) B (k xs)) Γ) : CI (itR1 f) A t κ Γ := fun ρ S k E hc => by
  simp only [itR1, bind_st]
  refine h ρ S _ E fun rvs vs B S' t' h1 E1 q1 _ => ?_
  obtain ⟨j, k2, rfl, rfl, hk⟩ := h1
  obtain ⟨v, rfl, q⟩ := q1.one
  cases q
  exact ref_ofL E1 hc hk
theorem ci_r2 {f : La} {κ : List D → AS → Q β → Prop} (h : CA f A t (fun rvs B t' => ∃ i j k, rvs = [.dat (.int i), .dat (.int j)] ∧ t' = (Q.of (rgT i j)).bind k ∧ ∀ xs, κ (xs.map .int) B (k xs)) Γ) : CI (itR2 f) A t κ Γ := fun ρ S k E hc => by
  simp only [itR2, bind_st]
  refine h ρ S _ E fun rvs vs B S' t' h1 E1 q1 _ => ?_
  obtain ⟨i, j, k2, rfl, rfl, hk⟩ := h1
  obtain ⟨v, w, rfl, q, q'⟩ := q1.two
  cases q; cases q'
  exact ref_ofL E1 hc hk
theorem ci_enum {f : La} {κ : List D → AS → Q β → Prop} (h : CA f A t (fun rvs B t' => ∃ ds, (rvs = [.dat (.list ds)] ∨ rvs = [.dat (.tuple ds)]) ∧ κ (enumD 0 ds) B t') Γ) : CI (itEnum f) A t κ Γ := fun ρ S k E hc => by
  simp only [itEnum, bind_st]
  refine h ρ S _ E fun rvs vs B S' t' h1 E1 q1 _ => ?_
  obtain ⟨ds, rfl | rfl, hk⟩ := h1
  · obtain ⟨v, rfl, q⟩ := q1.one; cases q; exact hc _ _ _ _ hk E1
  · obtain ⟨v, rfl, q⟩ := q1.one; cases q; exact hc _ _ _ _ hk E1
theorem ci_zip {f : La} {κ : List D → AS → Q β → Prop} (h : CA f A t (fun rvs B t' => ∃ ds es, (rvs = [.dat (.list ds), .dat (.list es)] ∨ rvs = [.dat (.tuple ds), .dat (.tuple es)] ∨ rvs = [.dat (.tuple ds), .dat (.list es)]) ∧ κ (zipD ds es) B t') Γ) : CI (itZipX f) A t κ Γ := fun ρ S k E hc => by
  simp only [itZipX, bind_st]
  refine h ρ S _ E fun rvs vs B S' t' h1 E1 q1 _ => ?_
  obtain ⟨ds, es, rfl | rfl | rfl, hk⟩ := h1 <;> (obtain ⟨v, w, rfl, q, q'⟩ := q1.two; cases q; cases q'; exact hc _ _ _ _ hk E1)
theorem ci_keys {i : Nat} {kds : List (D × D)} {κ : List D → AS → Q β → Prop} (hi : A[i]? = some (some (.dat (.dict kds)))) (hk : κ (kds.map (·.1)) A t) : CI (itKeys i) A t κ Γ := fun ρ S k E hc => by
  obtain ⟨v, h1, h2⟩ := E.at' i _ hi
  cases h2
  simp only [itKeys, h1, R.st]
  exact hc _ _ _ _ hk E
noncomputable def foldQ {α σ : Type} : List α → σ → (α → σ → Q σ) → Q σ
  | [], s, _ => .ok s
  | x :: r, s, f => (f x s).bind fun s' => foldQ r s' f
noncomputable def forQ {α σ ρ : Type} : List α → σ → (α → σ → Q (LF σ ρ)) → Q (LF σ ρ)
  | [], s, _ => .ok (.nx s)
  | x :: r, s, f => (f x s).bind fun l => match l with
    | .nx s' => forQ r s' f
    | .bk s' => .ok (.bk s')
    | .rt v => .ok (.rt v)
noncomputable def whileS {σ : Type} (c : σ → Q Bool) (f : σ → Q σ) : Nat → σ → Q σ
  | 0, _ => .bad
  | n + 1, s => (c s).bind fun b => if b = true then (f s).bind fun s' => whileS c f n s' else .ok s
theorem cb_for {fi : Iy} {tg : Tg} {g : Blk} {κ : AS → Q β → Prop} (h : CI fi A t (fun ds B t' => CB (forL tg g ds) B t' κ Γ) Γ) : CB (sFor fi tg g) A t κ Γ := fun ρ S k E hc => by
  simp only [sFor, st_fl]
  exact h ρ S _ E fun ds B S' t' h1 E1 => h1 ρ S' k E1 hc
noncomputable def lstep (r : R Flow) (k : Ev → Sto → R Flow) : R Flow := match r with
  | .ok (.nx ρ') S' => k ρ' S'
  | .ok (.ct ρ') S' => k ρ' S'
  | .ok (.bk ρ') S' => .ok (.nx ρ') S'
  | r => r
theorem forL_cons {tg : Tg} {g : Blk} {d : D} {ds : List D} {ρ : Ev} {S : Sto} : forL tg g (d :: ds) ρ S = lstep (((tg (.d d) ρ S).noX).st ρ g) (forL tg g ds) := by
  simp only [forL]
  cases (tg (.d d) ρ S).noX with
  | ok ρ1 S1 =>
    simp only [R.st]
    cases g ρ1 S1 with
    | ok f S' => cases f <;> rfl
    | exc x S' => rfl
    | bad => rfl
  | exc x S' => rfl
  | bad => rfl
theorem cl_fold {α σ : Type} {tg : Tg} {g : Blk} {body : α → σ → Q σ} {t2 : σ → Q β} {κ : AS → Q β → Prop} (f : α → D) (AL : σ → AS)
    (hb : ∀ x s, CG tg (f x) (AL s) (body x s) (fun B t' => CB g B t' (fun C t'' => ∃ s', t'' = .ok s' ∧ Weak C (AL s')) (Gb Γ AL)) (Gb Γ AL))
    (hk : ∀ s, κ (AL s) (t2 s)) : ∀ {ds : List D} {xs : List α} {s0 : σ} {A : AS}, ds = xs.map f → Weak A (AL s0) → CB (forL tg g ds) A ((foldQ xs s0 body).bind t2) κ Γ
  | _, [], s0, A, rfl, w => fun ρ S k E hc => hc _ _ _ _ (hk s0) (E.weak w)
  | _, x :: xs, s0, A, rfl, w => fun ρ S k E hc => by
    have k1 := hb x s0 ρ S ρ (fun ρ' S' => g ρ' S') (E.weak w) fun B ρ' S' t' h1 E1 => by
      have := h1 ρ' S' (fun ρ S => .ok (.nx ρ) S) E1 fun B ρ' S' t' ⟨s', e1, e2⟩ E1 => by
        subst e1; exact ⟨.nx B, E1, e2⟩
      rwa [fl_id] at this
    rw [List.map_cons, forL_cons, foldQ]
    have k1' : Ref (Gb Γ AL) (((tg (.d (f x)) ρ S).noX).st ρ g) (body x s0) := k1
    clear k1
    revert k1'
    generalize ((tg (.d (f x)) ρ S).noX).st ρ g = r
    generalize body x s0 = q
    intro k1
    cases q with
    | bad => trivial
    | exc x os =>
      obtain ⟨ρ1, S1, B, rfl, e2, e3⟩ := k1
      exact ⟨_, _, B, rfl, e2, e3⟩
    | ok s =>
      obtain ⟨fl, m1, g1⟩ := k1
      rw [Q.ok_bind]
      have ih := fun (B : AS) (hw : Weak B (AL s)) => cl_fold f AL hb hk (ds := xs.map f) (xs := xs) (s0 := s) (A := B) rfl hw
      cases fl with
      | nx B =>
        cases r with
        | ok fl S' =>
          cases fl with
          | nx ρ' => exact ih B g1 ρ' S' k m1 hc
          | _ => exact m1.elim
        | exc x S' => exact m1.elim
        | bad => exact m1.elim
      | ct B =>
        cases r with
        | ok fl S' =>
          cases fl with
          | ct ρ' => exact ih B g1 ρ' S' k m1 hc
          | _ => exact m1.elim
        | exc x S' => exact m1.elim
        | bad => exact m1.elim
      | _ => exact g1.elim
theorem cl_for {α σ ρr : Type} {tg : Tg} {g : Blk} {body : α → σ → Q (LF σ ρr)} {t2 : σ → Q β} {t3 : ρr → Q β} {κ : AS → Q β → Prop} (f : α → D) (AL : σ → AS) (GR : RV → AS → ρr → Prop)
    (hb : ∀ x s, CG tg (f x) (AL s) (body x s) (fun B t' => CB g B t' (fun C t'' => ∃ s', t'' = .ok (.nx s') ∧ Weak C (AL s')) (Glf Γ AL GR)) (Glf Γ AL GR))
    (hk : ∀ s, κ (AL s) (t2 s)) (hr : ∀ v B r, GR v B r → ∃ a, t3 r = .ok a ∧ Γ.G (.rt v B) a) : ∀ {ds : List D} {xs : List α} {s0 : σ} {A : AS}, ds = xs.map f → Weak A (AL s0) → CB (forL tg g ds) A ((forQ xs s0 body).lf t2 t3) κ Γ
  | _, [], s0, A, rfl, w => fun ρ S k E hc => hc _ _ _ _ (hk s0) (E.weak w)
  | _, x :: xs, s0, A, rfl, w => fun ρ S k E hc => by
    have k1 := hb x s0 ρ S ρ (fun ρ' S' => g ρ' S') (E.weak w) fun B ρ' S' t' h1 E1 => by
      have := h1 ρ' S' (fun ρ S => .ok (.nx ρ) S) E1 fun B ρ' S' t' ⟨s', e1, e2⟩ E1 => by
        subst e1; exact ⟨.nx B, E1, e2⟩
      rwa [fl_id] at this
    rw [List.map_cons, forL_cons, forQ]
    have k1' : Ref (Glf Γ AL GR) (((tg (.d (f x)) ρ S).noX).st ρ g) (body x s0) := k1
    clear k1
    revert k1'
    generalize ((tg (.d (f x)) ρ S).noX).st ρ g = r
    generalize body x s0 = q
    intro k1
    cases q with
    | bad => trivial
    | exc x os =>
      obtain ⟨ρ1, S1, B, rfl, e2, e3⟩ := k1
      exact ⟨_, _, B, rfl, e2, e3⟩
    | ok l =>
      obtain ⟨fl, m1, g1⟩ := k1
      rw [Q.ok_bind]
      have ih := fun (s : σ) (B : AS) (hw : Weak B (AL s)) => cl_for f AL GR hb hk hr (ds := xs.map f) (xs := xs) (s0 := s) (A := B) rfl hw
      cases r with
      | exc x S' => exact m1.elim
      | bad => exact m1.elim
      | ok f' S' =>
        cases f' with
        | nx ρ' =>
          cases fl with
          | nx B =>
            cases l with
            | nx s => exact ih s B g1 ρ' S' k m1 hc
            | _ => exact g1.elim
          | _ => exact m1.elim
        | ct ρ' =>
          cases fl with
          | ct B =>
            cases l with
            | nx s => exact ih s B g1 ρ' S' k m1 hc
            | _ => exact g1.elim
          | _ => exact m1.elim
        | bk ρ' =>
          cases fl with
          | bk B =>
            cases l with
            | bk s => exact hc _ _ _ _ (hk s) ((show Env B ρ' S' from m1).weak g1)
            | _ => exact g1.elim
          | _ => exact m1.elim
        | rt v =>
          cases fl with
          | rt v' B =>
            cases l with
            | rt r =>
              obtain ⟨a, e, g⟩ := hr _ _ _ g1
              show Ref Γ _ (t3 r)
              rw [e]
              exact ⟨.rt v' B, m1, g⟩
            | _ => exact g1.elim
          | _ => exact m1.elim
        | ex x ρ' => cases fl <;> exact m1.elim
theorem whileN_succ {te : Te} {g : Blk} {n : Nat} {ρ : Ev} {S : Sto} : whileN te g (n + 1) ρ S = (te ρ S).st ρ fun b S1 => match b with
    | false => .ok (.nx ρ) S1
    | true => lstep (g ρ S1) (whileN te g n) := by
  simp only [whileN]
  congr 1
theorem cl_while {σ : Type} {te : Te} {g : Blk} {c : σ → Q Bool} {body : σ → Q σ} {t2 : σ → Q β} {κ : AS → Q β → Prop} (AL : σ → AS)
    (hc' : ∀ s, CT te (AL s) (c s) (fun b B t' => ∃ b', t' = .ok b' ∧ b = b' ∧ Weak B (AL s)) (Gj Γ (fun b => .dat (.bool b)) (fun _ => AL s)))
    (hb : ∀ s, CB g (AL s) (body s) (fun C t'' => ∃ s', t'' = .ok s' ∧ Weak C (AL s')) (Gb Γ AL))
    (hk : ∀ s, κ (AL s) (t2 s)) : ∀ {n : Nat} {s0 : σ} {A : AS}, Weak A (AL s0) → CB (whileN te g n) A ((whileS c body n s0).bind t2) κ Γ
  | 0, s0, A, w => fun ρ S k E hc => trivial
  | n + 1, s0, A, w => fun ρ S k E hc => by
    rw [whileN_succ, whileS, st_fl, Q.bind_bind]
    refine ct_join (Γ := Γ) (σ := Bool) (κ := fun b B t' => B = AL s0 ∧ t' = (if b = true then (body s0).bind fun s' => whileS c body n s' else .ok s0).bind t2) (fun b => b) (fun _ => AL s0) (hc' s0) (fun b => ⟨rfl, rfl⟩) ρ S _ (E.weak w) ?_
    intro b B S' t' h1 E1
    obtain ⟨rfl, rfl⟩ := h1
    cases b with
    | false => exact hc _ _ _ _ (hk s0) E1
    | true =>
      have k1 := hb s0 ρ S' (fun ρ S => .ok (.nx ρ) S) E1 fun B ρ' S' t' ⟨s', e1, e2⟩ E1 => by
        subst e1; exact ⟨.nx B, E1, e2⟩
      rw [fl_id] at k1
      show Ref Γ ((lstep (g ρ S') (whileN te g n)).fl k) (((body s0).bind fun s' => whileS c body n s').bind t2)
      revert k1
      generalize g ρ S' = r
      generalize body s0 = q
      intro k1
      cases q with
      | bad => trivial
      | exc x os =>
        obtain ⟨ρ1, S1, B, rfl, e2, e3⟩ := k1
        exact ⟨_, _, B, rfl, e2, e3⟩
      | ok s =>
        obtain ⟨fl, m1, g1⟩ := k1
        rw [Q.ok_bind]
        have ih := fun (B : AS) (hw : Weak B (AL s)) => cl_while AL hc' hb hk (n := n) (s0 := s) (A := B) hw
        cases fl with
        | nx B =>
          cases r with
          | ok fl S' =>
            cases fl with
            | nx ρ' => exact ih B g1 ρ' S' k m1 hc
            | _ => exact m1.elim
          | exc x S' => exact m1.elim
          | bad => exact m1.elim
        | ct B =>
          cases r with
          | ok fl S' =>
            cases fl with
            | ct ρ' => exact ih B g1 ρ' S' k m1 hc
            | _ => exact m1.elim
          | exc x S' => exact m1.elim
          | bad => exact m1.elim
        | _ => exact g1.elim
noncomputable def compQ {α σ γ : Type} : List α → σ → (α → σ → Q (Option γ × σ)) → Q (List γ × σ)
  | [], s, _ => .ok ([], s)
  | x :: r, s, f => (f x s).noX.bind fun p => (compQ r p.2 f).bind fun q => .ok (p.1.toList ++ q.1, q.2)
noncomputable def TgIn (tg : Tg) (vs : List Nat) : Prop := ∀ v ρ S ρ1 S1, tg v ρ S = .ok ρ1 S1 → S1 = S ∧ ρ1.length = ρ.length ∧ ∀ i, i ∉ vs → ρ1[i]? = ρ[i]?
noncomputable def TgsIn (tg : Tgs) (vs : List Nat) : Prop := ∀ v ρ S ρ1 S1, tg v ρ S = .ok ρ1 S1 → S1 = S ∧ ρ1.length = ρ.length ∧ ∀ i, i ∉ vs → ρ1[i]? = ρ[i]?
theorem tgin_nm {i : Nat} {vs : List Nat} (h : i ∈ vs) : TgIn (gNm i) vs := fun v ρ S ρ1 S1 e => by
  cases e
  exact ⟨rfl, List.length_set, fun j hj => List.getElem?_set_ne fun (e : i = j) => hj (e ▸ h)⟩
theorem tgin_tp {n : Nat} {gs : Tgs} {vs : List Nat} (h : TgsIn gs vs) : TgIn (gTp n gs) vs := fun v ρ S ρ1 S1 e => by
  simp only [gTp] at e
  split at e
  · split at e
    · exact h _ _ _ _ _ e
    · cases e
  · cases e
theorem tgsin_nil {vs : List Nat} : TgsIn gsNil vs := fun v ρ S ρ1 S1 e => by
  simp only [gsNil] at e
  split at e
  · cases e; exact ⟨rfl, rfl, fun _ _ => rfl⟩
  · cases e
theorem tgsin_cons {g : Tg} {gs : Tgs} {vs : List Nat} (h : TgIn g vs) (h2 : TgsIn gs vs) : TgsIn (gsCons g gs) vs := fun v ρ S ρ1 S1 e => by
  simp only [gsCons] at e
  split at e
  · rename_i d r
    cases hg : g (.d d) ρ S with
    | ok ρ2 S2 =>
      rw [hg] at e
      obtain ⟨rfl, l1, a⟩ := h _ _ _ _ _ hg
      obtain ⟨rfl, l2, b⟩ := h2 _ _ _ _ _ e
      exact ⟨rfl, l2.trans l1, fun i hi => (b i hi).trans (a i hi)⟩
    | exc x S' => rw [hg] at e; cases e
    | bad => rw [hg] at e; cases e
  · cases e
theorem wipeE_get {vs : List Nat} {ρ : Ev} {i : Nat} (h : i ∉ vs) : (wipeE ρ vs)[i]? = ρ[i]? := by
  induction vs with
  | nil => rfl
  | cons v vs ih =>
    simp only [List.mem_cons, not_or] at h
    simp only [wipeE]
    rw [List.getElem?_set_ne (fun e => h.1 e.symm), ih h.2]
theorem wipeE_len {vs : List Nat} {ρ : Ev} : (wipeE ρ vs).length = ρ.length := by
  induction vs with
  | nil => rfl
  | cons v vs ih => simp [wipeE, ih]
theorem Env.wipe {ρ : Ev} {S : Sto} (E : Env A ρ S) {vs : List Nat} (hv : ∀ v ∈ vs, ∀ sv, A[v]? ≠ some (some sv)) : Env A (wipeE ρ vs) S := by
  have g : ∀ (i : Nat) (sv : SV), A[i]? = some (some sv) → (wipeE ρ vs)[i]? = ρ[i]? := fun i sv h => wipeE_get fun m => hv i m sv h
  obtain ⟨F, g1, g2⟩ := E.fp
  exact ⟨wipeE_len.trans E.len, F, fun i sv h => by rw [g i sv h]; exact g1 i sv h, g2⟩
noncomputable def Git {σ γ : Type} (g : γ → D) (AL : σ → AS) : Gx (Option γ × σ) where
  G := fun fl p => match fl with
    | .nx B => Weak B (AL p.2)
    | .bk B => p.1 = none ∧ Weak B (AL p.2)
    | .rt v _ => ∃ y, p.1 = some y ∧ v = .dat (g y)
    | _ => False
  E := fun _ _ => True
theorem item_of {α σ γ : Type} {tg : Tg} {tt : Te} {fe : Ex} {vs : List Nat} {x : α} {s : σ} {q : Q (Option γ × σ)} (f : α → D) (g : γ → D) (AL : σ → AS) (ht : TgIn tg vs) (hv : ∀ v ∈ vs, ∀ s sv, (AL s)[v]? ≠ some (some sv))
    (h : CG tg (f x) (AL s) q (fun B t => CT tt B t (fun b C t' => (b = true → CE fe C t' (fun rv D t'' => ∃ y s', t'' = .ok (some y, s') ∧ rv = .dat (g y) ∧ Weak D (AL s')) (Git g AL)) ∧ (b = false → ∃ s', t' = .ok (none, s') ∧ Weak C (AL s'))) (Git g AL)) (Git g AL))
    {ρ : Ev} {S : Sto} (E : Env (AL s) ρ S) : ∀ p, q = .ok p → ∃ S', item vs tg tt fe ρ (f x) S = .ok (p.1.map g) S' ∧ Env (AL p.2) ρ S' := by
  intro p hq
  have run : ∀ (k : Val → Ev → Sto → R Flow), (∀ v ρ1 S' rv D y s', rv = .dat (g y) → Weak D (AL s') → Env D ρ1 S' → VR D ρ1 S' rv v → Ref (Git g AL) (k v ρ1 S') (.ok (some y, s'))) →
      Ref (Git g AL) (((tg (.d (f x)) (wipeE ρ vs) S).noX).st ρ fun ρ1 S1 => (tt ρ1 S1).st ρ1 fun b S2 => match b with | true => (fe ρ1 S2).st ρ1 fun v S3 => k v ρ1 S3 | false => .ok (.bk ρ1) S2) q := fun k hk =>
    h (wipeE ρ vs) S ρ _ (E.wipe fun v hv' => hv v hv' s) fun B ρ1 S1 t1 h1 E1 => h1 ρ1 S1 _ E1 fun b C S2 t2 h2 E2 => by
      cases b with
      | false =>
        obtain ⟨s', rfl, hw⟩ := h2.2 rfl
        exact ⟨.bk C, E2, rfl, hw⟩
      | true =>
        refine h2.1 rfl ρ1 S2 _ E2 fun rv v D S3 t3 h3 E3 q3 => ?_
        obtain ⟨y, s', rfl, rfl, hw⟩ := h3
        exact hk v ρ1 S3 _ D y s' rfl hw E3 q3
  have k1 := run (fun v ρ1 S' => .ok (.rt v) S') fun v ρ1 S' rv D y s' e hw E1 q1 => ⟨.rt rv D, ⟨ρ1, E1, q1⟩, y, rfl, e⟩
  have k2 := run (fun v ρ1 S' => .ok (.nx ρ1) S') fun v ρ1 S' rv D y s' e hw E1 q1 => ⟨.nx D, E1, hw⟩
  clear run h
  subst hq
  obtain ⟨fl, m1, g1⟩ := k1
  obtain ⟨fl2, m2, g2⟩ := k2
  have bring : ∀ {B : AS} {ρ1 : Ev} {S' : Sto}, ρ1.length = ρ.length → (∀ i, i ∉ vs → ρ1[i]? = ρ[i]?) → Env B ρ1 S' → Weak B (AL p.2) → Env (AL p.2) ρ S' := fun {B ρ1 S'} hl he EB hw => by
    have E2 := EB.weak hw
    have gg : ∀ (i : Nat) (sv : SV), (AL p.2)[i]? = some (some sv) → ρ1[i]? = ρ[i]? := fun i sv hi => he i fun m => hv i m p.2 sv hi
    have hlen : ρ.length = (AL p.2).length := hl.symm.trans E2.len
    obtain ⟨F, g1, g2⟩ := E2.fp
    exact ⟨hlen, F, fun i sv hi => by rw [← gg i sv hi]; exact g1 i sv hi, g2⟩
  unfold item
  cases htg : tg (.d (f x)) (wipeE ρ vs) S with
  | exc y S' => rw [htg] at m1; exact m1.elim
  | bad => rw [htg] at m1; exact m1.elim
  | ok ρ1 S1 =>
    rw [htg] at m1 m2
    obtain ⟨rfl, hl, hin⟩ := ht _ _ _ _ _ htg
    rw [wipeE_len] at hl
    have he : ∀ i, i ∉ vs → ρ1[i]? = ρ[i]? := fun i hi => (hin i hi).trans (wipeE_get hi)
    simp only [R.noX, R.st, R.bind] at m1 m2 ⊢
    cases htt : tt ρ1 S1 with
    | exc y S' => rw [htt] at m1; cases fl <;> exact m1.elim
    | bad => rw [htt] at m1; cases fl <;> exact m1.elim
    | ok b S2 =>
      rw [htt] at m1 m2
      cases b with
      | false =>
        cases fl with
        | bk B =>
          refine ⟨S2, ?_, bring hl he (show Env B ρ1 S2 from m1) g1.2⟩
          rw [g1.1]; rfl
        | _ => exact m1.elim
      | true =>
        simp only [] at m1 m2 ⊢
        cases hfe : fe ρ1 S2 with
        | exc y S' => rw [hfe] at m1; cases fl <;> exact m1.elim
        | bad => rw [hfe] at m1; cases fl <;> exact m1.elim
        | ok v S3 =>
          rw [hfe] at m1 m2
          cases fl with
          | rt rv B =>
            obtain ⟨y, e1, rfl⟩ := g1
            obtain ⟨_, _, q⟩ := m1
            cases q
            cases fl2 with
            | nx B2 =>
              refine ⟨S3, ?_, bring hl he (show Env B2 ρ1 S3 from m2) g2⟩
              rw [e1]; rfl
            | _ => exact m2.elim
          | _ => exact m1.elim
theorem compL_of {α σ γ : Type} {it : D → Sto → R (Option D)} {q : α → σ → Q (Option γ × σ)} (f : α → D) (g : γ → D) {ρ : Ev} (AL : σ → AS)
    (h : ∀ x s S, Env (AL s) ρ S → ∀ p, q x s = .ok p → ∃ S', it (f x) S = .ok (p.1.map g) S' ∧ Env (AL p.2) ρ S') : ∀ (xs : List α) (s : σ) (S : Sto), Env (AL s) ρ S → ∀ p, compQ xs s q = .ok p → ∃ S', compL it (xs.map f) S = .ok (p.1.map g) S' ∧ Env (AL p.2) ρ S'
  | [], s, S, E, p, hp => by cases hp; exact ⟨S, rfl, E⟩
  | x :: xs, s, S, E, p, hp => by
    simp only [compQ] at hp
    cases hq : q x s with
    | bad => rw [hq] at hp; cases hp
    | exc y os => rw [hq] at hp; cases hp
    | ok p1 =>
      rw [hq] at hp
      simp only [Q.ok_noX, Q.ok_bind] at hp
      obtain ⟨S1, h1, E1⟩ := h x s S E p1 hq
      cases hr : compQ xs p1.2 q with
      | bad => rw [hr] at hp; cases hp
      | exc y os => rw [hr] at hp; cases hp
      | ok p2 =>
        rw [hr] at hp
        cases hp
        obtain ⟨S2, h2, E2⟩ := compL_of f g AL h xs p1.2 S1 E1 p2 hr
        refine ⟨S2, ?_, E2⟩
        simp only [List.map_cons, compL, h1, R.bind, h2]
        cases p1.1 <;> simp
theorem compQ_exc {α σ γ : Type} {q : α → σ → Q (Option γ × σ)} : ∀ (xs : List α) (s : σ) (x : XV) (os : List TO), compQ xs s q ≠ .exc x os
  | [], s, x, os => fun h => by cases h
  | y :: ys, s, x, os => fun h => by
    simp only [compQ] at h
    cases hq : q y s with
    | bad => rw [hq] at h; cases h
    | exc y os => rw [hq] at h; cases h
    | ok p1 =>
      rw [hq] at h
      simp only [Q.ok_noX, Q.ok_bind] at h
      cases hr : compQ ys p1.2 q with
      | bad => rw [hr] at h; cases h
      | exc y os => exact compQ_exc ys _ _ _ hr
      | ok p2 => rw [hr] at h; cases h
noncomputable abbrev ItC {α σ γ : Type} (tg : Tg) (tt : Te) (fe : Ex) (f : α → D) (g : γ → D) (AL : σ → AS) (q : α → σ → Q (Option γ × σ)) : Prop :=
  ∀ x s, CG tg (f x) (AL s) (q x s) (fun B t => CT tt B t (fun b C t' => (b = true → CE fe C t' (fun rv D t'' => ∃ y s', t'' = .ok (some y, s') ∧ rv = .dat (g y) ∧ Weak D (AL s')) (Git g AL)) ∧ (b = false → ∃ s', t' = .ok (none, s') ∧ Weak C (AL s'))) (Git g AL)) (Git g AL)
theorem ce_lc {γ : Type} {fi : Iy} {vs : List Nat} {tg : Tg} {tt : Te} {fe : Ex} {κ : RV → AS → Q β → Prop} (g : γ → D) (ht : TgIn tg vs)
    (h : CI fi A t (fun ds B t' => ∃ (α σ : Type) (f : α → D) (AL : σ → AS) (xs : List α) (s0 : σ) (q : α → σ → Q (Option γ × σ)) (k : List γ × σ → Q β), ds = xs.map f ∧ Weak B (AL s0) ∧ (∀ v ∈ vs, ∀ s sv, (AL s)[v]? ≠ some (some sv)) ∧
      t' = (compQ xs s0 q).bind k ∧ ItC tg tt fe f g AL q ∧ ∀ ys s, κ (.dat (.list (ys.map g))) (AL s) (k (ys, s))) Γ) : CE (eLc fi vs tg tt fe) A t κ Γ := fun ρ S k E hc => by
  simp only [eLc, cmp, bind_st]
  refine h ρ S _ E fun ds B S' t' h1 E1 => ?_
  obtain ⟨α, σ, f, AL, xs, s0, q, k2, rfl, hw, hv, rfl, hit, hk⟩ := h1
  cases hq : compQ xs s0 q with
  | bad => trivial
  | exc x os => exact absurd hq (compQ_exc _ _ _ _)
  | ok p =>
    obtain ⟨S2, h2, E2⟩ := compL_of f g AL (fun x s S E p hp => item_of f g AL ht hv (hit x s) E p hp) xs s0 S' (E1.weak hw) p hq
    rw [h2]
    exact hc _ _ _ _ _ (hk p.1 p.2) E2 rfl
theorem ce_lcN {γ : Type} {fi : Iy} {vs : List Nat} {tg : Tg} {tt : Te} {fe : Ex} {κ : RV → AS → Q β → Prop} (g : γ → D) (ht : TgIn tg vs)
    (h : CI fi A t (fun ds B t' => ∃ (α σ : Type) (f : α → D) (AL : σ → AS) (xs : List α) (s0 : σ) (q : α → σ → Q (Option γ × σ)) (k : List γ × σ → Q β), ds = xs.map f ∧ Weak B (AL s0) ∧ (∀ v ∈ vs, ∀ s sv, (AL s)[v]? ≠ some (some sv)) ∧
      t' = (compQ xs s0 q).bind k ∧ ItC tg tt fe f g AL q ∧ ∀ ys s, κ (.new (.lst (ys.map g))) (AL s) (k (ys, s))) Γ) : CE (eLcN fi vs tg tt fe) A t κ Γ := fun ρ S k E hc => by
  simp only [eLcN, bind_st]
  refine h ρ S _ E fun ds B S' t' h1 E1 => ?_
  obtain ⟨α, σ, f, AL, xs, s0, q, k2, rfl, hw, hv, rfl, hit, hk⟩ := h1
  cases hq : compQ xs s0 q with
  | bad => trivial
  | exc x os => exact absurd hq (compQ_exc _ _ _ _)
  | ok p =>
    obtain ⟨S2, h2, E2⟩ := compL_of f g AL (fun x s S E p hp => item_of f g AL ht hv (hit x s) E p hp) xs s0 S' (E1.weak hw) p hq
    rw [h2]
    exact hc _ _ _ _ _ (hk p.1 p.2) (E2.grow _) (vr_new E2 _)
theorem item_noexc2 {vs : List Nat} {tg : Tg} {tt : Te} {fe : Ex} {ρ : Ev} {d : D} {S : Sto} (x : XV) (S' : Sto) : item vs tg tt fe ρ d S ≠ .exc x S' := by
  unfold item
  cases tg (.d d) (wipeE ρ vs) S with
  | exc y S1 => intro h; cases h
  | bad => intro h; cases h
  | ok ρ1 S1 =>
    simp only [R.noX, R.bind]
    cases tt ρ1 S1 with
    | exc y S1 => intro h; cases h
    | bad => intro h; cases h
    | ok b S2 =>
      cases b with
      | false => intro h; cases h
      | true =>
        simp only []
        cases fe ρ1 S2 with
        | exc y S1 => intro h; cases h
        | bad => intro h; cases h
        | ok v S3 => cases v <;> (intro h; cases h)
theorem compL_noexc2 {it : D → Sto → R (Option D)} (h : ∀ d S x S', it d S ≠ .exc x S') : ∀ (ds : List D) (S : Sto) (x : XV) (S' : Sto), compL it ds S ≠ .exc x S'
  | [], S, x, S' => fun e => by cases e
  | d :: ds, S, x, S' => fun e => by
    simp only [compL] at e
    cases hi : it d S with
    | exc y S1 => exact h _ _ _ _ hi
    | bad => rw [hi] at e; cases e
    | ok o S1 =>
      rw [hi] at e
      simp only [R.bind] at e
      cases hc : compL it ds S1 with
      | exc y S1 => exact compL_noexc2 h _ _ _ _ hc
      | bad => rw [hc] at e; cases e
      | ok r S2 => rw [hc] at e; cases e
theorem ce_lcK {i : Nat} {vs : List Nat} {tg : Tg} {tt : Te} {fe : Ex} {κ : RV → AS → Q β → Prop} (h : CE (eLc (itKeys i) vs tg tt fe) A t κ Γ) : CE (eLcK i vs tg tt fe) A t κ Γ := fun ρ S k E hc => by
  have := h ρ S k E hc
  unfold eLcK
  cases he : eLc (itKeys i) vs tg tt fe ρ S with
  | ok v S' => rw [he] at this; exact this
  | bad => rw [he] at this; exact this
  | exc x S' =>
    exfalso
    simp only [eLc, cmp, itKeys] at he
    split at he
    · simp only [R.bind] at he
      rename_i kds _
      cases hc : compL (item vs tg tt fe ρ) (kds.map (·.1)) S with
      | exc y S1 => exact compL_noexc2 (fun d S x S' => item_noexc2 x S') _ _ _ _ hc
      | bad => rw [hc] at he; cases he
      | ok r S2 => rw [hc] at he; cases he
    · cases he
end
end DL
namespace DL
open PySem L2
noncomputable def vals : List SV → Nat → List Val
  | [], _ => []
  | .dat d :: r, k => .d d :: vals r k
  | .ob _ :: r, k => .loc k :: vals r (k + 1)
  | .par j _ :: r, k => .loc j :: vals r k
  | .scr ds :: r, k => .scr ds :: vals r k
  | .er o :: r, k => erV o :: vals r k
  | .tr _ :: r, k => .d .none :: vals r k
  | .ptr _ _ :: r, k => .d .none :: vals r k
noncomputable def objs : List SV → Sto
  | [] => []
  | .ob o :: r => some o :: objs r
  | _ :: r => objs r
noncomputable def inA : List SV → Nat → AS
  | [], _ => []
  | .ob o :: r, k => some (.par k o) :: inA r (k + 1)
  | v :: r, k => some v :: inA r k
noncomputable def RvOk (w : Val) (S : Sto) (m : Nat) : SV → Prop
  | .dat d => w = .d d
  | .ob o => ∃ n, w = .loc n ∧ m ≤ n ∧ S[n]? = some (some o) ∧ lf o = true
  | _ => False
noncomputable def RFn0 {α : Type} (F : Fn) (as : List SV) (t : Q α) (v : α → SV) (os : α → List O) : Prop := match t with
  | .bad => True
  | .ok a => ∃ w S', F (vals as 0) (objs as) = .ok w S' ∧ S'.take (objs as).length = (os a).map some ∧ (os a).length = (objs as).length ∧ (os a).all lf = true ∧ RvOk w S' (objs as).length (v a)
  | .exc x ts => ∃ S' es, ts = List.map TO.leaf es ∧ F (vals as 0) (objs as) = .exc x S' ∧ S'.take (objs as).length = es.map some ∧ es.length = (objs as).length ∧ es.all lf = true
structure RFn {α : Type} (F : Fn) (as : List SV) (t : Q α) (v : α → SV) (os : α → List O) : Prop where
  run : RFn0 F as t v os
noncomputable def Prs : List Nat → Nat → AS → List O → Prop
  | [], _, _, [] => True
  | i :: is, j, B, o :: os => B[i]? = some (some (.par j o)) ∧ Prs is (j + 1) B os
  | _, _, _, _ => False
noncomputable def PrsE : List Nat → Nat → AS → List TO → Prop
  | [], _, _, [] => True
  | i :: is, j, B, .leaf o :: os => B[i]? = some (some (.par j o)) ∧ PrsE is (j + 1) B os
  | _, _, _, _ => False
theorem prsE : ∀ {is : List Nat} {j : Nat} {B : AS} {ts : List TO}, PrsE is j B ts → ∃ os, ts = List.map TO.leaf os ∧ Prs is j B os
  | [], _, _, [], _ => ⟨[], rfl, trivial⟩
  | i :: is, j, B, .leaf o :: ts, h => by
    obtain ⟨os, rfl, h2⟩ := prsE h.2
    exact ⟨o :: os, rfl, h.1, h2⟩
  | [], _, _, _ :: _, h => h.elim
  | _ :: _, _, _, [], h => h.elim
  | _ :: _, _, _, .d _ :: _, h => h.elim
  | _ :: _, _, _, .lsp _ :: _, h => h.elim
  | _ :: _, _, _, .ins _ _ :: _, h => h.elim
noncomputable def RtOk (B : AS) : RV → SV → Prop
  | .dat d, .dat e => d = e
  | .new o, .ob o' => o = o'
  | .sl i, .ob o => B[i]? = some (some (.ob o))
  | _, _ => False
noncomputable def Gf {α : Type} (is : List Nat) (v : α → SV) (os : α → List O) : Gx α where
  G := fun fl a => match fl with
    | .rt rv B => RtOk B rv (v a) ∧ Prs is 0 B (os a)
    | _ => False
  E := fun B es => PrsE is 0 B es
theorem prs_get : ∀ {is : List Nat} {j : Nat} {B : AS} {os : List O} {ρ : Ev} {S : Sto}, Prs is j B os → Env B ρ S → is.length = os.length ∧ ∀ k, k < os.length → S[j + k]? = some os[k]?
  | [], j, B, [], ρ, S, h, E => ⟨rfl, fun k hk => by simp at hk⟩
  | i :: is, j, B, o :: os, ρ, S, h, E => by
    obtain ⟨h1, h2⟩ := prs_get h.2 E
    refine ⟨by simp [h1], fun k hk => ?_⟩
    obtain ⟨v, _, rfl, hS⟩ := E.at' i _ h.1
    cases k with
    | zero => simpa using hS
    | succ k =>
      have := h2 k (by simpa using hk)
      simp only [List.getElem?_cons_succ]
      rw [← this]
      congr 1; omega
  | [], j, B, _ :: _, ρ, S, h, E => h.elim
  | _ :: _, j, B, [], ρ, S, h, E => h.elim
theorem prs_lf : ∀ {is : List Nat} {j : Nat} {B : AS} {os : List O} {ρ : Ev} {S : Sto}, Prs is j B os → Env B ρ S → os.all lf = true
  | [], j, B, [], ρ, S, h, E => rfl
  | i :: is, j, B, o :: os, ρ, S, h, E => by
    rw [List.all_cons, prs_lf h.2 E, E.leaf i o (.inr ⟨j, h.1⟩)]; rfl
  | [], j, B, _ :: _, ρ, S, h, E => h.elim
  | _ :: _, j, B, [], ρ, S, h, E => h.elim
theorem lf_lfC {os : List O} (h : os.all lf = true) : (os.map some).all lfC = true := by
  induction os with
  | nil => rfl
  | cons o r ih => rw [List.all_cons, Bool.and_eq_true] at h; rw [List.map_cons, List.all_cons, ih h.2]; simpa [lfC] using h.1
theorem prs_take {is : List Nat} {B : AS} {os : List O} {ρ : Ev} {S : Sto} (h : Prs is 0 B os) (E : Env B ρ S) {m : Nat} (hm : m = is.length) : S.take m = os.map some := by
  obtain ⟨h1, h2⟩ := prs_get h E
  apply List.ext_getElem?
  intro k
  by_cases hk : k < os.length
  · rw [List.getElem?_take_of_lt (by omega)]
    have := h2 k hk
    simp only [Nat.zero_add] at this
    rw [this, List.getElem?_map]
    rw [List.getElem?_eq_getElem hk]; rfl
  · rw [List.getElem?_eq_none (by simp; omega), List.getElem?_eq_none (by simp; omega)]
theorem prs_loc {is : List Nat} {B : AS} : ∀ {j : Nat} {os : List O}, Prs is j B os → ∀ k, k < is.length → ∃ (i : Nat) (o : O), B[i]? = some (some (SV.par (j + k) o)) := by
  induction is with
  | nil => intro j os h k hk; simp at hk
  | cons i is ih =>
    intro j os h k hk
    cases os with
    | nil => exact h.elim
    | cons o os =>
      cases k with
      | zero => exact ⟨i, o, h.1⟩
      | succ k =>
        obtain ⟨i', o', h'⟩ := ih h.2 k (by simpa using hk)
        exact ⟨i', o', by rw [show j + (k + 1) = j + 1 + k by omega]; exact h'⟩
theorem inA_len : ∀ (as : List SV) (k : Nat), (inA as k).length = as.length
  | [], _ => rfl
  | .dat _ :: r, k => by simp [inA, inA_len r k]
  | .ob _ :: r, k => by simp [inA, inA_len r (k + 1)]
  | .par _ _ :: r, k => by simp [inA, inA_len r k]
  | .scr _ :: r, k => by simp [inA, inA_len r k]
  | .er _ :: r, k => by simp [inA, inA_len r k]
  | .tr _ :: r, k => by simp [inA, inA_len r k]
  | .ptr _ _ :: r, k => by simp [inA, inA_len r k]
noncomputable def okIn : SV → Bool
  | .ob o => lf o
  | .par _ _ => false
  | .tr _ => false
  | .ptr _ _ => false
  | _ => true
noncomputable def NoPar (as : List SV) : Prop := ∀ sv ∈ as, okIn sv = true
theorem in_at : ∀ (as : List SV) (T : Sto), NoPar as → ∀ (i : Nat) (sv : SV), (inA as T.length)[i]? = some (some sv) → ∃ v, (vals as T.length)[i]? = some v ∧ VM (T ++ objs as) sv v
  | [], T, _, i, sv, h => by simp [inA] at h
  | a :: r, T, hp, i, sv, h => by
    have hp' : NoPar r := fun sv hs => hp sv (List.mem_cons_of_mem _ hs)
    cases a with
    | dat d =>
      cases i with
      | zero => simp only [inA, List.getElem?_cons_zero] at h; cases h; exact ⟨.d d, rfl, rfl⟩
      | succ i => simp only [inA, List.getElem?_cons_succ] at h; simpa [vals, objs] using in_at r T hp' i sv h
    | scr d =>
      cases i with
      | zero => simp only [inA, List.getElem?_cons_zero] at h; cases h; exact ⟨.scr d, rfl, rfl⟩
      | succ i => simp only [inA, List.getElem?_cons_succ] at h; simpa [vals, objs] using in_at r T hp' i sv h
    | er d =>
      cases i with
      | zero => simp only [inA, List.getElem?_cons_zero] at h; cases h; exact ⟨erV d, rfl, rfl⟩
      | succ i => simp only [inA, List.getElem?_cons_succ] at h; simpa [vals, objs] using in_at r T hp' i sv h
    | par j o => cases hp (.par j o) List.mem_cons_self
    | tr t => cases hp (.tr t) List.mem_cons_self
    | ptr j t => cases hp (.ptr j t) List.mem_cons_self
    | ob o =>
      cases i with
      | zero =>
        simp only [inA, List.getElem?_cons_zero] at h; cases h
        exact ⟨.loc T.length, rfl, rfl, by simp [objs]⟩
      | succ i =>
        simp only [inA, List.getElem?_cons_succ] at h
        have := in_at r (T ++ [some o]) hp' i sv (by simpa using h)
        simpa [vals, objs] using this
theorem in_loc : ∀ (as : List SV) (k : Nat), NoPar as → ∀ (i : Nat) (n : Nat), (vals as k)[i]? = some (.loc n) → k ≤ n
  | [], k, _, i, n, h => by simp [vals] at h
  | a :: r, k, hp, i, n, h => by
    have hp' : NoPar r := fun sv hs => hp sv (List.mem_cons_of_mem _ hs)
    cases a with
    | dat d =>
      cases i with
      | zero => simp [vals] at h
      | succ i => exact in_loc r k hp' i n (by simpa [vals] using h)
    | scr d =>
      cases i with
      | zero => simp [vals] at h
      | succ i => exact in_loc r k hp' i n (by simpa [vals] using h)
    | er d =>
      cases i with
      | zero => cases d <;> simp [vals, erV] at h
      | succ i => exact in_loc r k hp' i n (by simpa [vals] using h)
    | par j o => cases hp (.par j o) List.mem_cons_self
    | tr t => cases hp (.tr t) List.mem_cons_self
    | ptr j t => cases hp (.ptr j t) List.mem_cons_self
    | ob o =>
      cases i with
      | zero => simp [vals] at h; omega
      | succ i => have := in_loc r (k + 1) hp' i n (by simpa [vals] using h); omega
theorem in_inj : ∀ (as : List SV) (k : Nat), NoPar as → ∀ (i j : Nat) (n : Nat), (vals as k)[i]? = some (.loc n) → (vals as k)[j]? = some (.loc n) → i = j
  | [], k, _, i, j, n, h, h2 => by simp [vals] at h
  | a :: r, k, hp, i, j, n, h, h2 => by
    have hp' : NoPar r := fun sv hs => hp sv (List.mem_cons_of_mem _ hs)
    cases a with
    | dat d =>
      cases i with
      | zero => simp [vals] at h
      | succ i =>
        cases j with
        | zero => simp [vals] at h2
        | succ j => rw [in_inj r k hp' i j n (by simpa [vals] using h) (by simpa [vals] using h2)]
    | scr d =>
      cases i with
      | zero => simp [vals] at h
      | succ i =>
        cases j with
        | zero => simp [vals] at h2
        | succ j => rw [in_inj r k hp' i j n (by simpa [vals] using h) (by simpa [vals] using h2)]
    | er d =>
      cases i with
      | zero => cases d <;> simp [vals, erV] at h
      | succ i =>
        cases j with
        | zero => cases d <;> simp [vals, erV] at h2
        | succ j => rw [in_inj r k hp' i j n (by simpa [vals] using h) (by simpa [vals] using h2)]
    | par j o => cases hp (.par j o) List.mem_cons_self
    | tr t => cases hp (.tr t) List.mem_cons_self
    | ptr j t => cases hp (.ptr j t) List.mem_cons_self
    | ob o =>
      cases i with
      | zero =>
        cases j with
        | zero => rfl
        | succ j =>
          have := in_loc r (k + 1) hp' j n (by simpa [vals] using h2)
          simp [vals] at h; omega
      | succ i =>
        have := in_loc r (k + 1) hp' i n (by simpa [vals] using h)
        cases j with
        | zero => simp [vals] at h2; omega
        | succ j => rw [in_inj r (k + 1) hp' i j n (by simpa [vals] using h) (by simpa [vals] using h2)]
theorem vals_len : ∀ (as : List SV) (k : Nat), (vals as k).length = as.length
  | [], _ => rfl
  | .dat _ :: r, k => by simp [vals, vals_len r k]
  | .ob _ :: r, k => by simp [vals, vals_len r (k + 1)]
  | .par _ _ :: r, k => by simp [vals, vals_len r k]
  | .scr _ :: r, k => by simp [vals, vals_len r k]
  | .er _ :: r, k => by simp [vals, vals_len r k]
  | .tr _ :: r, k => by simp [vals, vals_len r k]
  | .ptr _ _ :: r, k => by simp [vals, vals_len r k]
theorem in_lf : ∀ (as : List SV) (k : Nat), NoPar as → ∀ (i : Nat) (sv : SV), (inA as k)[i]? = some (some sv) → (∃ j o, sv = .par j o ∧ lf o = true) ∨ (∃ d, sv = .dat d) ∨ (∃ d, sv = .scr d) ∨ ∃ o, sv = .er o
  | [], k, _, i, sv, h => by simp [inA] at h
  | a :: r, k, hp, i, sv, h => by
    have hp' : NoPar r := fun sv hs => hp sv (List.mem_cons_of_mem _ hs)
    have h0 := hp a List.mem_cons_self
    cases a with
    | dat d => cases i with
      | zero => simp only [inA, List.getElem?_cons_zero] at h; cases h; exact .inr (.inl ⟨_, rfl⟩)
      | succ i => exact in_lf r k hp' i sv (by simpa [inA] using h)
    | scr d => cases i with
      | zero => simp only [inA, List.getElem?_cons_zero] at h; cases h; exact .inr (.inr (.inl ⟨_, rfl⟩))
      | succ i => exact in_lf r k hp' i sv (by simpa [inA] using h)
    | er d => cases i with
      | zero => simp only [inA, List.getElem?_cons_zero] at h; cases h; exact .inr (.inr (.inr ⟨_, rfl⟩))
      | succ i => exact in_lf r k hp' i sv (by simpa [inA] using h)
    | ob o => cases i with
      | zero => simp only [inA, List.getElem?_cons_zero] at h; cases h; exact .inl ⟨_, _, rfl, h0⟩
      | succ i => exact in_lf r (k + 1) hp' i sv (by simpa [inA] using h)
    | par j o => cases h0
    | tr t => cases h0
    | ptr j t => cases h0
theorem env_in (as : List SV) (n : Nat) (hp : NoPar as) : Env (inA as 0 ++ List.replicate n none) ((vals as 0).map some ++ List.replicate n none) (objs as) := by
  have hl : (inA as 0).length = as.length := inA_len as 0
  have get : ∀ (i : Nat) (sv : SV), (inA as 0 ++ List.replicate n none)[i]? = some (some sv) → i < as.length ∧ (inA as 0)[i]? = some (some sv) := fun i sv h => by
    by_cases hi : i < as.length
    · rw [List.getElem?_append_left (by omega)] at h; exact ⟨hi, h⟩
    · rw [List.getElem?_append_right (by omega), List.getElem?_replicate] at h
      split at h <;> simp at h
  have getv : ∀ (i : Nat), i < as.length → ((vals as 0).map some ++ List.replicate n none)[i]? = ((vals as 0)[i]?).map some := fun i hi => by
    rw [List.getElem?_append_left (by simp [vals_len, hi]), List.getElem?_map]
  have at0 : ∀ (i : Nat) (sv : SV), (inA as 0 ++ List.replicate n none)[i]? = some (some sv) → ∃ v, ((vals as 0).map some ++ List.replicate n none)[i]? = some (some v) ∧ VM (objs as) sv v := fun i sv h => by
    obtain ⟨hi, h⟩ := get i sv h
    obtain ⟨v, h1, h2⟩ := in_at as [] hp i sv h
    exact ⟨v, by rw [getv i hi]; simp only [List.length_nil] at h1; rw [h1]; rfl, by simpa using h2⟩
  have inj0 : ∀ (i j m : Nat), i < as.length → j < as.length → ((vals as 0).map some ++ List.replicate n none)[i]? = some (some (.loc m)) → ((vals as 0).map some ++ List.replicate n none)[j]? = some (some (.loc m)) → i = j := fun i j m hi hj g g' => by
    rw [getv i hi] at g; rw [getv j hj] at g'
    refine in_inj as 0 hp i j m ?_ ?_
    · cases e : (vals as 0)[i]? with
      | none => rw [e] at g; cases g
      | some v => rw [e] at g; simp at g; rw [g]
    · cases e : (vals as 0)[j]? with
      | none => rw [e] at g'; cases g'
      | some v => rw [e] at g'; simp at g'; rw [g']
  refine ⟨by simp [inA_len, vals_len], fun i => match ((vals as 0).map some ++ List.replicate n none)[i]? with | some (some (Val.loc m)) => [m] | _ => [], fun i sv h => ?_, fun i j sv sv' m h h' g g' => ?_⟩
  · obtain ⟨v, h1, h2⟩ := at0 i sv h
    refine ⟨v, h1, ?_⟩
    simp only [h1]
    rcases in_lf as 0 hp i sv (get i sv h).2 with ⟨j, o, rfl, l⟩ | ⟨d, rfl⟩ | ⟨d, rfl⟩ | ⟨o, rfl⟩
    · obtain ⟨rfl, h2⟩ := h2; exact ⟨rfl, h2, l, rfl⟩
    · cases h2; exact ⟨rfl, rfl⟩
    · cases h2; exact ⟨rfl, rfl⟩
    · cases h2; cases o <;> exact ⟨rfl, rfl⟩
  · have key : ∀ (i : Nat), m ∈ (match ((vals as 0).map some ++ List.replicate n none)[i]? with | some (some (Val.loc m)) => [m] | _ => []) → ((vals as 0).map some ++ List.replicate n none)[i]? = some (some (.loc m)) := fun i z => by
      split at z
      · rename_i k e; simp at z; subst z; exact e
      · simp at z
    exact inj0 i j m (get i sv h).1 (get j sv' h').1 (key i g) (key j g')
theorem rtOk {B : AS} {ρ : Ev} {S : Sto} {rv : RV} {sv : SV} {v : Val} {is : List Nat} {os : List O} (h : RtOk B rv sv) (hp : Prs is 0 B os) (E : Env B ρ S) (q : VR B ρ S rv v) {m : Nat} (hm : m = is.length) : RvOk v S m sv := by
  have hge : ∀ (n : Nat), (∀ k, k < is.length → n ≠ k) → m ≤ n := fun n hn => by
    cases Nat.lt_or_ge n m with
    | inl hlt => exact absurd rfl (hn n (by omega))
    | inr h => exact h
  cases rv with
  | dat d => cases sv with
    | dat e => cases h; exact q
    | _ => exact h.elim
  | new o => cases sv with
    | ob o' =>
      cases h
      obtain ⟨hl, n, rfl, hS, hn⟩ := q
      refine ⟨n, rfl, hge n fun k hk e => ?_, hS, hl⟩
      subst e
      obtain ⟨i, o2, hi⟩ := prs_loc hp n hk
      obtain ⟨F, g1, _⟩ := E.fp
      obtain ⟨w, hw, hm⟩ := g1 i _ hi
      obtain ⟨rfl, _⟩ := id hm
      rw [Nat.zero_add] at hw hm
      exact hn i _ _ _ (by rw [Nat.zero_add] at hi; exact hi) hw hm hm.mem
    | _ => exact h.elim
  | sl i => cases sv with
    | ob o =>
      have h : B[i]? = some (some (.ob o)) := h
      obtain ⟨n', sv', o', g0, g1, rfl, g4⟩ := q
      obtain ⟨w, hw, n, hwn, hS⟩ := E.at' i _ h
      rw [g1] at hw; cases hw; cases hwn
      refine ⟨n', rfl, hge n' fun k hk e => ?_, hS, E.leaf i _ (.inl h)⟩
      subst e
      obtain ⟨i2, o2, hi2⟩ := prs_loc hp n' hk
      obtain ⟨w, hw, rfl, _⟩ := E.at' i2 _ hi2
      rw [Nat.zero_add] at hw
      have := E.inj i i2 _ _ _ h hi2 g1 hw
      subst this
      rw [h] at hi2; cases hi2
    | _ => exact h.elim
  | scr ds => cases sv <;> exact h.elim
  | er o => cases sv <;> exact h.elim
  | newt o => cases sv <;> exact h.elim
  | tup o => cases sv <;> exact h.elim
  | sub i π => cases sv <;> exact h.elim
theorem rf_fn {α : Type} {n : Nat} {b : Blk} {as : List SV} {t : Q α} {v : α → SV} {os : α → List O} (is : List Nat) (hp : NoPar as) (hm : (objs as).length = is.length)
    (h : CB b (inA as 0 ++ List.replicate n none) t (fun B t' => ∃ a, t' = .ok a ∧ v a = .dat .none ∧ Prs is 0 B (os a)) (Gf is v os)) : RFn (mkFn n b) as t v os := ⟨by
  have E := env_in as n hp
  have k1 := h _ _ (fun ρ S => .ok (.rt (.d .none)) S) E fun B ρ' S' t' ⟨a, e, hv, hpr⟩ E1 => by
    subst e
    exact ⟨.rt (.dat .none) B, ⟨ρ', E1, rfl⟩, by rw [hv]; rfl, hpr⟩
  have e0 : mkFn n b (vals as 0) (objs as) = fin (b ((vals as 0).map some ++ List.replicate n none) (objs as)) := rfl
  unfold RFn0
  rw [e0]
  generalize b ((vals as 0).map some ++ List.replicate n none) (objs as) = r at k1 ⊢
  have hf : fin r = fin (r.fl fun ρ S => .ok (.rt (.d .none)) S) := by
    cases r with
    | ok f S => cases f <;> rfl
    | exc x S => rfl
    | bad => rfl
  rw [hf]
  generalize (r.fl fun ρ S => .ok (.rt (.d .none)) S) = r' at k1 ⊢
  cases t with
  | bad => trivial
  | ok a =>
    obtain ⟨fl, m1, g1⟩ := k1
    cases r' with
    | ok f S' =>
      cases f with
      | rt w =>
        cases fl with
        | rt rv B =>
          obtain ⟨ρ', E', q'⟩ := m1
          exact ⟨w, S', rfl, prs_take g1.2 E' hm, (prs_get g1.2 E').1.symm.trans hm.symm, prs_lf g1.2 E', rtOk g1.1 g1.2 E' q' hm⟩
        | _ => exact m1.elim
      | nx ρ' => cases fl <;> first | exact m1.elim | exact g1.elim
      | bk ρ' => cases fl <;> first | exact m1.elim | exact g1.elim
      | ct ρ' => cases fl <;> first | exact m1.elim | exact g1.elim
      | ex x ρ' => cases fl <;> first | exact m1.elim | exact g1.elim
    | exc x S' => exact m1.elim
    | bad => exact m1.elim
  | exc x es =>
    obtain ⟨ρ1, S1, B, rfl, e2, e3⟩ := k1
    obtain ⟨os, rfl, e4⟩ := prsE e3
    exact ⟨S1, os, rfl, rfl, prs_take e4 e2 hm, (prs_get e4 e2).1.symm.trans hm.symm, prs_lf e4 e2⟩⟩
inductive ArgOk (B : AS) : List RV → List SV → Prop
  | nil : ArgOk B [] []
  | dat {d : D} {rs : List RV} {as : List SV} : ArgOk B rs as → ArgOk B (.dat d :: rs) (.dat d :: as)
  | scr {d : List D} {rs : List RV} {as : List SV} : ArgOk B rs as → ArgOk B (.scr d :: rs) (.scr d :: as)
  | er {d : Option XV} {rs : List RV} {as : List SV} : ArgOk B rs as → ArgOk B (.er d :: rs) (.er d :: as)
  | new {o : O} {rs : List RV} {as : List SV} : ArgOk B rs as → ArgOk B (.new o :: rs) (.ob o :: as)
  | sl {i : Nat} {o : O} {rs : List RV} {as : List SV} : B[i]? = some (some (.ob o)) → ArgOk B rs as → ArgOk B (.sl i :: rs) (.ob o :: as)
  | slp {i j : Nat} {o : O} {rs : List RV} {as : List SV} : B[i]? = some (some (.par j o)) → ArgOk B rs as → ArgOk B (.sl i :: rs) (.ob o :: as)
noncomputable def slots : List RV → List Nat
  | [] => []
  | .sl i :: r => i :: slots r
  | .sub i _ :: r => i :: slots r
  | _ :: r => slots r
noncomputable def noSub : List RV → Bool
  | [] => true
  | .sub _ _ :: _ => false
  | _ :: r => noSub r
noncomputable def updA (B : AS) : List RV → List O → AS
  | [], _ => B
  | .sl i :: r, o :: os => updA (B.set i ((B.getD i none).map (SV.wo o))) r os
  | .new _ :: r, _ :: os => updA B r os
  | .sl _ :: r, [] => B
  | .new _ :: r, [] => B
  | .dat _ :: r, os => updA B r os
  | .scr _ :: r, os => updA B r os
  | .er _ :: r, os => updA B r os
  | .newt _ :: r, os => updA B r os
  | .tup _ :: r, os => updA B r os
  | .sub _ _ :: r, os => updA B r os
theorem ArgOk.noSub {B : AS} {rs : List RV} {as : List SV} (h : ArgOk B rs as) : noSub rs = true := by
  induction h <;> first | rfl | assumption
section
variable {B : AS} {ρ : Ev} {S : Sto}
theorem arg_vals : ∀ {rs : List RV} {as : List SV} {vs : List Val} (k : Nat), ArgOk B rs as → VRs B ρ S rs vs → Env B ρ S → rebase vs k = vals as k
  | _, _, _, k, .nil, .nil, E => rfl
  | _, _, _, k, .dat h, .cons q t, E => by cases q; simp only [rebase, vals, arg_vals k h t E]
  | _, _, _, k, .scr h, .cons q t, E => by cases q; simp only [rebase, vals, arg_vals k h t E]
  | _, _, _, k, .er (d := d) h, .cons q t, E => by cases q; cases d <;> simp only [rebase, vals, erV, arg_vals k h t E]
  | _, _, _, k, .new h, .cons q t, E => by obtain ⟨_, n, rfl, _⟩ := q; simp only [rebase, vals, arg_vals (k + 1) h t E]
  | _, _, _, k, .sl e h, .cons q t, E => by obtain ⟨n, _, _, _, _, rfl, _⟩ := q; simp only [rebase, vals, arg_vals (k + 1) h t E]
  | _, _, _, k, .slp e h, .cons q t, E => by obtain ⟨n, _, _, _, _, rfl, _⟩ := q; simp only [rebase, vals, arg_vals (k + 1) h t E]
theorem getD_some {n : Nat} {o : O} (h : S[n]? = some (some o)) : S.getD n none = some o := by rw [List.getD, h]; rfl
theorem arg_objs : ∀ {rs : List RV} {as : List SV} {vs : List Val}, ArgOk B rs as → VRs B ρ S rs vs → Env B ρ S → (lent vs).map (fun n => S.getD n none) = objs as ∧ (lent vs).all (isLive S) = true ∧ (lent vs).length = (objs as).length ∧ vs.length = as.length ∧ as.length = rs.length ∧ vs.all noTup = true
  | _, _, _, .nil, .nil, E => ⟨rfl, rfl, rfl, rfl, rfl, rfl⟩
  | _, _, _, .dat h, .cons q t, E => by
    cases q
    obtain ⟨a, b, c, d, e, f⟩ := arg_objs h t E
    exact ⟨a, b, c, by simp [d], by simp [e], by simpa [noTup] using f⟩
  | _, _, _, .scr h, .cons q t, E => by
    cases q
    obtain ⟨a, b, c, d, e, f⟩ := arg_objs h t E
    exact ⟨a, b, c, by simp [d], by simp [e], by simpa [noTup] using f⟩
  | _, _, _, .er (d := z) h, .cons q t, E => by
    cases q
    obtain ⟨a, b, c, d, e, f⟩ := arg_objs h t E
    cases z <;> exact ⟨a, b, c, by simp [d], by simp [e], by simpa [noTup, erV] using f⟩
  | _, _, _, .new h, .cons q t, E => by
    obtain ⟨hl, n, rfl, hS, _⟩ := q
    obtain ⟨a, b, c, d, e, f⟩ := arg_objs h t E
    exact ⟨by simp only [lent, objs, List.map_cons]; rw [a, getD_some hS], by simp only [lent, List.all_cons, b, isLive, hS, hl, Bool.and_true], by simp [lent, objs, c], by simp [d], by simp [e], by simpa [noTup] using f⟩
  | _, _, _, .sl (o := o) g h, .cons q t, E => by
    obtain ⟨n, _, o', _, g1, rfl, hS'⟩ := q
    obtain ⟨w, hw, m, rfl, hS⟩ := E.at' _ _ g
    rw [g1] at hw; cases hw
    obtain ⟨a, b, c, d, e, f⟩ := arg_objs h t E
    exact ⟨by simp only [lent, objs, List.map_cons]; rw [a, getD_some hS], by simp only [lent, List.all_cons, b, isLive, hS, E.leaf _ _ (.inl g), Bool.and_true], by simp [lent, objs, c], by simp [d], by simp [e], by simpa [noTup] using f⟩
  | _, _, _, .slp (o := o) g h, .cons q t, E => by
    obtain ⟨n, _, o', _, g1, rfl, hS'⟩ := q
    obtain ⟨w, hw, rfl, hS⟩ := E.at' _ _ g
    rw [g1] at hw; cases hw
    obtain ⟨a, b, c, d, e, f⟩ := arg_objs h t E
    exact ⟨by simp only [lent, objs, List.map_cons]; rw [a, getD_some hS], by simp only [lent, List.all_cons, b, isLive, hS, E.leaf _ _ (.inr ⟨_, g⟩), Bool.and_true], by simp [lent, objs, c], by simp [d], by simp [e], by simpa [noTup] using f⟩
theorem lent_slot : ∀ {rs : List RV} {vs : List Val}, noSub rs = true → VRs B ρ S rs vs → ∀ n ∈ lent vs, (∃ i ∈ slots rs, ∃ sv, B[i]? = some (some sv) ∧ ρ[i]? = some (some (.loc n))) ∨ (n ∈ newLocs rs vs ∧ Fresh B ρ S n)
  | _, _, ns, .nil, n, h => by simp [lent] at h
  | .dat d :: rs, _, ns, .cons q t, n, h => by cases q; simpa [slots, newLocs, newLoc1] using lent_slot (rs := rs) ns t n h
  | .scr d :: rs, _, ns, .cons q t, n, h => by cases q; simpa [slots, newLocs, newLoc1] using lent_slot (rs := rs) ns t n h
  | .er d :: rs, _, ns, .cons q t, n, h => by cases q; cases d <;> simpa [slots, newLocs, newLoc1, erV, lent] using lent_slot (rs := rs) ns t n (by simpa [lent, erV] using h)
  | .new d :: rs, _, ns, .cons q t, n, h => by
    obtain ⟨_, m, rfl, hS, hn⟩ := q
    simp only [lent, List.mem_cons] at h
    rcases h with rfl | h
    · exact .inr ⟨by simp [newLocs, newLoc1], hn⟩
    · rcases lent_slot (rs := rs) ns t n h with ⟨i, hi, r⟩ | ⟨a, r⟩
      · exact .inl ⟨i, hi, r⟩
      · exact .inr ⟨by simp [newLocs, newLoc1, a], r⟩
  | .newt d :: rs, _, ns, .cons q t, n, h => by
    obtain ⟨m, L, rfl, hS, hn⟩ := q
    simp only [lent, List.mem_cons] at h
    rcases h with rfl | h
    · exact .inr ⟨by simp [newLocs, newLoc1], hn _ hS.head.1⟩
    · rcases lent_slot (rs := rs) ns t n h with ⟨i, hi, r⟩ | ⟨a, r⟩
      · exact .inl ⟨i, hi, r⟩
      · exact .inr ⟨by simp [newLocs, newLoc1, a], r⟩
  | .tup d :: rs, _, ns, .cons q t, n, h => by
    obtain ⟨ps, L, rfl, hS, hn⟩ := q
    simpa [slots, newLocs, newLoc1] using lent_slot (rs := rs) ns t n h
  | .sl j :: rs, _, ns, .cons q t, n, h => by
    obtain ⟨m, sv, o, g0, g1, rfl, g2⟩ := q
    simp only [lent, List.mem_cons] at h
    rcases h with rfl | h
    · exact .inl ⟨j, by simp [slots], sv, g0, g1⟩
    · rcases lent_slot (rs := rs) ns t n h with ⟨i, hi, r⟩ | ⟨a, r⟩
      · exact .inl ⟨i, by simp [slots, hi], r⟩
      · exact .inr ⟨by simpa [newLocs, newLoc1] using a, r⟩
  | .sub i π :: rs, _, ns, .cons q t, n, h => by cases ns
theorem lent_nodup (E : Env B ρ S) : ∀ {rs : List RV} {vs : List Val}, noSub rs = true → VRs B ρ S rs vs → (slots rs).Nodup → (newLocs rs vs).Nodup → (lent vs).Nodup
  | _, _, _, .nil, _, _ => by simp [lent]
  | .dat d :: rs, _, ns, .cons q t, h, h2 => by cases q; have := lent_nodup (rs := rs) E ns t h (by simpa [newLocs, newLoc1] using h2); simpa [lent] using this
  | .scr d :: rs, _, ns, .cons q t, h, h2 => by cases q; have := lent_nodup (rs := rs) E ns t h (by simpa [newLocs, newLoc1] using h2); simpa [lent] using this
  | .er d :: rs, _, ns, .cons q t, h, h2 => by cases q; have := lent_nodup (rs := rs) E ns t h (by simpa [newLocs, newLoc1] using h2); cases d <;> simpa [lent, erV] using this
  | .new d :: rs, _, ns, .cons q t, h, h2 => by
    obtain ⟨_, m, rfl, hS, hn⟩ := q
    simp only [newLocs, newLoc1, List.cons_append, List.nil_append, List.nodup_cons] at h2
    simp only [lent, List.nodup_cons]
    refine ⟨fun hm => ?_, lent_nodup (rs := rs) E ns t h h2.2⟩
    rcases lent_slot (rs := rs) ns t m hm with ⟨i, hi, sv, g0, g1⟩ | ⟨a, r⟩
    · obtain ⟨F, f1, _⟩ := E.fp
      obtain ⟨w, f2, f3⟩ := f1 i sv g0
      rw [g1] at f2; cases f2
      exact hn i sv _ _ g0 g1 f3 f3.mem
    · exact h2.1 a
  | .newt d :: rs, _, ns, .cons q t, h, h2 => by
    obtain ⟨m, L, rfl, hS, hn⟩ := q
    simp only [newLocs, newLoc1, List.cons_append, List.nil_append, List.nodup_cons] at h2
    simp only [lent, List.nodup_cons]
    refine ⟨fun hm => ?_, lent_nodup (rs := rs) E ns t h h2.2⟩
    rcases lent_slot (rs := rs) ns t m hm with ⟨i, hi, sv, g0, g1⟩ | ⟨a, r⟩
    · obtain ⟨F, f1, _⟩ := E.fp
      obtain ⟨w, f2, f3⟩ := f1 i sv g0
      rw [g1] at f2; cases f2
      exact hn _ hS.head.1 i sv _ _ g0 g1 f3 f3.mem
    · exact h2.1 a
  | .tup d :: rs, _, ns, .cons q t, h, h2 => by
    obtain ⟨ps, L, rfl, hS, hn⟩ := q
    have := lent_nodup (rs := rs) E ns t h (by simpa [newLocs, newLoc1] using h2); simpa [lent] using this
  | .sl j :: rs, _, ns, .cons q t, h, h2 => by
    obtain ⟨m, sv, o, g0, g1, rfl, g2⟩ := q
    simp only [slots, List.nodup_cons] at h
    simp only [lent, List.nodup_cons]
    refine ⟨fun hm => ?_, lent_nodup (rs := rs) E ns t h.2 (by simpa [newLocs, newLoc1] using h2)⟩
    rcases lent_slot (rs := rs) ns t m hm with ⟨i, hi, sv', e0, e1⟩ | ⟨a, r⟩
    · have := E.inj j i _ _ _ g0 e0 g1 e1
      subst this
      exact h.1 hi
    · obtain ⟨F, f1, _⟩ := E.fp
      obtain ⟨w, f2, f3⟩ := f1 j sv g0
      rw [g1] at f2; cases f2
      exact r j sv _ _ g0 g1 f3 f3.mem
  | .sub i π :: rs, _, ns, .cons q t, h, h2 => by cases ns
inductive LcA (F : Nat → List Nat) (ρ : Ev) : AS → List RV → List Val → Prop
  | nil {B : AS} : LcA F ρ B [] []
  | dat {B : AS} {d : D} {rs : List RV} {vs : List Val} : LcA F ρ B rs vs → LcA F ρ B (.dat d :: rs) (.d d :: vs)
  | scr {B : AS} {d : List D} {rs : List RV} {vs : List Val} : LcA F ρ B rs vs → LcA F ρ B (.scr d :: rs) (.scr d :: vs)
  | er {B : AS} {d : Option XV} {rs : List RV} {vs : List Val} : LcA F ρ B rs vs → LcA F ρ B (.er d :: rs) (erV d :: vs)
  | new {B : AS} {o : O} {n : Nat} {rs : List RV} {vs : List Val} : (∀ (i : Nat) (sv : SV), B[i]? = some (some sv) → n ∉ F i) → LcA F ρ B rs vs → LcA F ρ B (.new o :: rs) (.loc n :: vs)
  | sl {B : AS} {i n : Nat} {sv : SV} {rs : List RV} {vs : List Val} : B[i]? = some (some sv) → ρ[i]? = some (some (.loc n)) → (∃ o0, sv = .ob o0 ∨ ∃ j, sv = .par j o0) → LcA F ρ B rs vs → LcA F ρ B (.sl i :: rs) (.loc n :: vs)
theorem VRs.lc {F : Nat → List Nat} (E : EnvF B ρ S F) : ∀ {rs : List RV} {as : List SV} {vs : List Val}, ArgOk B rs as → VRs B ρ S rs vs → LcA F ρ B rs vs
  | _, _, _, .nil, .nil => .nil
  | _, _, _, .dat h, .cons q t => by cases q; exact .dat (t.lc E h)
  | _, _, _, .scr h, .cons q t => by cases q; exact .scr (t.lc E h)
  | _, _, _, .er h, .cons q t => by cases q; exact .er (t.lc E h)
  | _, _, _, .new h, .cons q t => by
    obtain ⟨_, m, rfl, hS, hn⟩ := q
    refine .new (fun i sv hi => ?_) (t.lc E h)
    obtain ⟨v, h1, h2⟩ := E.1 i sv hi
    exact hn i sv v _ hi h1 h2
  | _, _, _, .sl g h, .cons q t => by obtain ⟨m, sv, o, g0, g1, rfl, g2⟩ := q; exact .sl g g1 ⟨_, .inl rfl⟩ (t.lc E h)
  | _, _, _, .slp g h, .cons q t => by obtain ⟨m, sv, o, g0, g1, rfl, g2⟩ := q; exact .sl g g1 ⟨_, .inr ⟨_, rfl⟩⟩ (t.lc E h)
theorem LcA.set {F : Nat → List Nat} {i : Nat} {sv : SV} {o : O} (hi : B[i]? = some (some sv)) (hsv : ∃ o0, sv = .ob o0 ∨ ∃ j, sv = .par j o0) : ∀ {rs : List RV} {vs : List Val}, LcA F ρ B rs vs → LcA F ρ (B.set i (some (sv.wo o))) rs vs
  | _, _, .nil => .nil
  | _, _, .dat t => .dat (t.set hi hsv)
  | _, _, .scr t => .scr (t.set hi hsv)
  | _, _, .er t => .er (t.set hi hsv)
  | _, _, .new hn t => .new (fun j s hj => by
      rcases getset hj with ⟨rfl, e⟩ | ⟨q, hj⟩
      · exact hn _ _ hi
      · exact hn _ _ hj) (t.set hi hsv)
  | _, _, .sl (i := j) g0 g1 g2 t => by
    by_cases q : i = j
    · subst q
      refine .sl (List.getElem?_set_self (lt_of_get g0)) g1 ?_ (t.set hi hsv)
      obtain ⟨o0, rfl | ⟨j, rfl⟩⟩ := hsv
      · exact ⟨o, .inl rfl⟩
      · exact ⟨o, .inr ⟨j, rfl⟩⟩
    · exact .sl (setget g0 q) g1 g2 (t.set hi hsv)
theorem puts_envF {F : Nat → List Nat} : ∀ {rs : List RV} {vs : List Val} {B : AS} {S S' : Sto} {os : List O}, LcA F ρ B rs vs → EnvF B ρ S F → S'.take (lent vs).length = os.map some → os.length = (lent vs).length → os.all lf = true → EnvF (updA B rs os) ρ (puts S (lent vs) S') F ∧ (updA B rs os).length = B.length
  | _, _, B, S, S', os, .nil, E, h, hl, hf => ⟨E, rfl⟩
  | _, _, B, S, S', os, .dat t, E, h, hl, hf => by
    have := puts_envF t E h hl hf
    cases os <;> simpa [updA, lent] using this
  | _, _, B, S, S', os, .scr t, E, h, hl, hf => by
    have := puts_envF t E h hl hf
    cases os <;> simpa [updA, lent] using this
  | _, _, B, S, S', os, .er (d := z) t, E, h, hl, hf => by
    cases z with
    | none =>
      have := puts_envF t E h hl hf
      cases os <;> simpa [updA, lent, erV] using this
    | some z =>
      have := puts_envF t E h hl hf
      cases os <;> simpa [updA, lent, erV] using this
  | _, _, B, S, S', os, .new (n := n) hn t, E, h, hl, hf => by
    cases S' with
    | nil => cases os with
      | nil => simp [lent] at hl
      | cons o os => simp [lent] at h
    | cons s S' =>
      cases os with
      | nil => simp [lent] at h
      | cons o os =>
        simp only [lent, List.length_cons, List.take_succ_cons, List.map_cons, List.cons.injEq] at h
        obtain ⟨rfl, h⟩ := h
        simp only [updA, lent, puts, List.headD, List.tail]
        rw [List.all_cons, Bool.and_eq_true] at hf
        exact puts_envF t (E.off fun i sv m hi hm => by rw [List.getElem?_set_ne]; intro e; subst e; exact hn i sv hi hm) h (by simpa [lent] using hl) hf.2
  | _, _, B, S, S', os, .sl (i := i) (n := n) (sv := sv) g0 g1 g2 t, E, h, hl, hf => by
    cases S' with
    | nil => cases os with
      | nil => simp [lent] at hl
      | cons o os => simp [lent] at h
    | cons s S' =>
      cases os with
      | nil => simp [lent] at h
      | cons o os =>
        simp only [lent, List.length_cons, List.take_succ_cons, List.map_cons, List.cons.injEq] at h
        obtain ⟨rfl, h⟩ := h
        simp only [updA, lent, puts, List.headD, List.tail]
        rw [List.all_cons, Bool.and_eq_true] at hf
        have hg : (B.getD i none).map (SV.wo o) = some (sv.wo o) := by simp [List.getD, g0]
        rw [hg]
        obtain ⟨r1, r2⟩ := puts_envF (t.set (o := o) g0 g2) (E.setO o g0 g1 g2 hf.1) h (by simpa [lent] using hl) hf.2
        exact ⟨r1, by rw [r2]; simp⟩
theorem puts_env {rs : List RV} {as : List SV} {vs : List Val} {S' : Sto} {os : List O} (ha : ArgOk B rs as) (q : VRs B ρ S rs vs) (E : Env B ρ S) (h : S'.take (lent vs).length = os.map some) (hl : os.length = (lent vs).length) (hf : os.all lf = true) : Env (updA B rs os) ρ (puts S (lent vs) S') := by
  obtain ⟨F, g⟩ := E.fp
  obtain ⟨r1, r2⟩ := puts_envF (q.lc g ha) g h hl hf
  exact ⟨by rw [r2]; exact E.len, F, r1⟩
theorem puts_len : ∀ (ns : List Nat) (S S' : Sto), (puts S ns S').length = S.length
  | [], S, S' => rfl
  | n :: ns, S, S' => by simp [puts, puts_len ns]
end
noncomputable def rvOf : SV → RV
  | .tr _ => .dat .none
  | .ptr _ _ => .dat .none
  | .dat d => .dat d
  | .ob o => .new o
  | .par _ o => .new o
  | .scr ds => .scr ds
  | .er o => .er o
section
variable {β : Type} {Γ : Gx β} {A : AS} {t : Q β}
theorem ref_call {α : Type} {F : Fn} {n : Nat} {rvs : List RV} {vs : List Val} {as : List SV} {q : Q α} {v : α → SV} {os : α → List O} {B : AS} {ρ : Ev} {S : Sto} {κ : RV → AS → Q β → Prop} {k : Val → Sto → R Flow} {t2 : α → Q β} {fe : List TO → List TO}
    (E : Env B ρ S) (q1 : VRs B ρ S rvs vs) (ha : ArgOk B rvs as) (hn : rvs.length = n) (hnd : (slots rvs).Nodup) (hnw : (newLocs rvs vs).Nodup) (hF : RFn F as q v os)
    (hk : ∀ a, κ (rvOf (v a)) (updA B rvs (os a)) (t2 a)) (hx : ∀ x es, q = .exc x (List.map TO.leaf es) → es.length = (objs as).length → Γ.E (updA B rvs es) (fe (List.map TO.leaf es)))
    (hc : ∀ rv v B S' t', κ rv B t' → Env B ρ S' → VR B ρ S' rv v → Ref Γ (k v S') t') : Ref Γ ((callM n F vs S).st ρ k) ((q.ex fe).bind t2) := by
  obtain ⟨o1, o2, o3, o4, o5, o8⟩ := arg_objs ha q1 E
  have o6 := arg_vals 0 ha q1 E
  have o7 := lent_nodup E ha.noSub q1 hnd hnw
  unfold callM
  rw [if_pos ⟨by omega, o7, o2, o8⟩, o1, o6]
  cases q with
  | bad => trivial
  | exc x es =>
    obtain ⟨S', es, rfl, e1, e2, e3, e5⟩ := hF.run
    have e6 : (S'.take (lent vs).length).all lfC = true := by rw [o3, e2]; exact lf_lfC e5
    simp only [e1, e6, if_true]
    refine ⟨ρ, _, _, rfl, puts_env ha q1 E ?_ ?_ e5, hx x es rfl e3⟩
    · rw [o3]; exact e2
    · rw [o3]; exact e3
  | ok a =>
    obtain ⟨w, S', e1, e2, e3, e5, e4⟩ := hF.run
    have e6 : (S'.take (lent vs).length).all lfC = true := by rw [o3, e2]; exact lf_lfC e5
    simp only [e1, e6, if_true]
    have E2 : Env (updA B rvs (os a)) ρ (puts S (lent vs) S') := puts_env ha q1 E (by rw [o3]; exact e2) (by rw [o3]; exact e3) e5
    have hk := hk a
    cases hv : v a with
    | dat d =>
      rw [hv] at e4 hk
      cases (show w = .d d from e4)
      exact hc _ _ _ _ _ hk E2 rfl
    | ob o =>
      rw [hv] at e4 hk
      obtain ⟨m, rfl, hm, hS, hlo⟩ := e4
      have hb : (lent vs)[m]? = none := List.getElem?_eq_none (by omega)
      simp only [back, hb, hS, hlo, if_true, R.st]
      refine hc _ _ _ _ _ hk (E2.grow _) ?_
      have := vr_new E2 o hlo
      rwa [puts_len] at this
    | par j o => rw [hv] at e4; exact e4.elim
    | scr ds => rw [hv] at e4; exact e4.elim
    | er ds => rw [hv] at e4; exact e4.elim
    | tr ds => rw [hv] at e4; exact e4.elim
    | ptr j ds => rw [hv] at e4; exact e4.elim
theorem ce_call {F : Fn} {n : Nat} {f : La} {κ : RV → AS → Q β → Prop}
    (h : CA f A t (fun rvs B t' => ∃ (α : Type) (as : List SV) (q : Q α) (v : α → SV) (os : α → List O) (fe : List TO → List TO) (t2 : α → Q β), t' = (q.ex fe).bind t2 ∧ ArgOk B rvs as ∧ rvs.length = n ∧ (slots rvs).Nodup ∧ RFn F as q v os ∧
      (∀ a, κ (rvOf (v a)) (updA B rvs (os a)) (t2 a)) ∧ ∀ x es, q = .exc x (List.map TO.leaf es) → es.length = (objs as).length → Γ.E (updA B rvs es) (fe (List.map TO.leaf es))) Γ) : CE (eCall n F f) A t κ Γ := fun ρ S k E hc => by
  simp only [eCall, bind_st]
  refine h ρ S _ E fun rvs vs B S' t' h1 E1 q1 hnw => ?_
  obtain ⟨α, as, q, v, os, fe, t2, rfl, ha, hn, hnd, hF, hk, hx⟩ := h1
  exact ref_call E1 q1 ha hn hnd hnw hF hk hx hc
theorem Q.ex_id {α : Type} (q : Q α) : q.ex (fun es => es) = q := by cases q <;> rfl
theorem ce_callN {F : Fn} {n : Nat} {f : La} {κ : RV → AS → Q β → Prop}
    (h : CA f A t (fun rvs B t' => ∃ (α : Type) (as : List SV) (q : Q α) (v : α → SV) (os : α → List O) (t2 : α → Q β), t' = q.noX.bind t2 ∧ ArgOk B rvs as ∧ rvs.length = n ∧ (slots rvs).Nodup ∧ RFn F as q v os ∧
      ∀ a, κ (rvOf (v a)) (updA B rvs (os a)) (t2 a)) Γ) : CE (eCall n F f) A t κ Γ := fun ρ S k E hc => by
  simp only [eCall, bind_st]
  refine h ρ S _ E fun rvs vs B S' t' h1 E1 q1 hnw => ?_
  obtain ⟨α, as, q, v, os, t2, rfl, ha, hn, hnd, hF, hk⟩ := h1
  cases q with
  | bad => trivial
  | exc x es => trivial
  | ok a => exact ref_call (fe := fun es => es) E1 q1 ha hn hnd hnw hF hk (fun x es e => by cases e) hc
theorem ce_call0 {α : Type} {F : Fn} {n : Nat} {f : La} {ds : List D} {q : Q α} {v : α → SV} {os : α → List O} {t2 : α → Q β} {κ : RV → AS → Q β → Prop} (ha : PA1 f A ds) (hn : ds.length = n) (hF : RFn F (ds.map .dat) q v os)
    (hk : ∀ a, κ (rvOf (v a)) A (t2 a)) (hx : Γ.E A []) : CE (eCall n F f) A (q.bind t2) κ Γ := by
  have hobj : ∀ ds : List D, objs (ds.map .dat) = [] := fun ds => by induction ds with
    | nil => rfl
    | cons d r ih => simpa [objs] using ih
  have hupd : ∀ (ds : List D) (es : List O), updA A (ds.map .dat) es = A := fun ds es => by induction ds with
    | nil => simp [updA]
    | cons d r ih => simpa [updA] using ih
  have hsl : ∀ ds : List D, slots (ds.map .dat) = [] := fun ds => by induction ds with
    | nil => rfl
    | cons d r ih => simpa [slots] using ih
  have hao : ∀ ds : List D, ArgOk A (ds.map .dat) (ds.map .dat) := fun ds => by induction ds with
    | nil => exact .nil
    | cons d r ih => exact .dat ih
  refine ce_call (ca_pure ha ⟨α, ds.map .dat, q, v, os, fun es => es, t2, by rw [Q.ex_id], hao ds, by simpa using hn, by rw [hsl]; simp, hF, fun a => ?_, fun x es e hl => ?_⟩)
  · rw [hupd]; exact hk a
  · rw [hobj] at hl
    cases es with
    | nil => rw [hupd]; exact hx
    | cons o es => simp at hl
end
end DL
namespace DL
open PySem L2
noncomputable abbrev eI : Int → D := PyData.int
noncomputable abbrev eB : Bool → D := PyData.bool
noncomputable abbrev eS : Str → D := PyData.str
noncomputable abbrev eN : Unit → D := fun _ => PyData.none
noncomputable abbrev eD : D → D := fun x => x
noncomputable abbrev eV {α : Type} (e : α → D) : List α → D := fun l => .tuple (l.map e)
noncomputable abbrev eL {α : Type} (e : α → D) : List α → D := fun l => .list (l.map e)
noncomputable def eO {α : Type} (e : α → D) : Option α → D
  | none => .none
  | some x => e x
noncomputable abbrev eK {α : Type} (e : α → D) : List (Int × α) → D := fun m => objD (.dic (dicE e m))
noncomputable abbrev eT0 : Unit → D := fun _ => .tuple []
noncomputable abbrev eT1 {α : Type} (a : α → D) : α → D := fun p => .tuple [a p]
noncomputable abbrev eT2 {α β : Type} (a : α → D) (b : β → D) : α × β → D := fun p => .tuple [a p.1, b p.2]
noncomputable abbrev eT3 {α β γ : Type} (a : α → D) (b : β → D) (c : γ → D) : α × β × γ → D := fun p => .tuple [a p.1, b p.2.1, c p.2.2]
noncomputable abbrev eT4 {α β γ δ : Type} (a : α → D) (b : β → D) (c : γ → D) (d : δ → D) : α × β × γ × δ → D := fun p => .tuple [a p.1, b p.2.1, c p.2.2.1, d p.2.2.2]
theorem o_eqI (i j : Int) : eqD (.int i) (.int j) = some (.bool (decide (i = j))) := by
  unfold eqD; rw [eqB_int]; rfl
theorem o_neI (i j : Int) : neD (.int i) (.int j) = some (.bool (!decide (i = j))) := by
  unfold neD; rw [eqB_int]; rfl
theorem o_eqS (i j : Str) : eqD (.str i) (.str j) = some (.bool (i == j)) := rfl
theorem o_neS (i j : Str) : neD (.str i) (.str j) = some (.bool (!(i == j))) := rfl
theorem o_eqX (a b : D) : eqD a b = (eqB a b).map .bool := rfl
theorem o_neX (a b : D) : neD a b = ((eqB a b).map fun k => !k).map .bool := by
  unfold neD; cases eqB a b <;> rfl
structure EqE {α : Type} (n : Nat) (e : α → D) : Prop where
  cl : ∀ x, (e x).canLay0 = true
  dp : ∀ x, (e x).depth ≤ n
  eq : ∀ x y, PyData.eqv (e x) (e y) = true ↔ x = y
theorem eqE_I : EqE 0 eI := ⟨fun _ => rfl, fun _ => by simp [PyData.depth], fun x y => by simp [PyData.eqv]⟩
theorem eqE_O_I : EqE 0 (eO eI) := ⟨fun x => by cases x <;> rfl, fun x => by cases x <;> simp [eO, PyData.depth], fun x y => by cases x <;> cases y <;> simp [eO, PyData.eqv]⟩
section
variable {α β γ δ : Type} {n : Nat} {a : α → D} {b : β → D} {c : γ → D} {d : δ → D}
theorem EqE.all (h : EqE n a) : ∀ xs : List α, PyData.canLayAll0 (xs.map a) = true ∧ PyData.depthAll (xs.map a) ≤ n
  | [] => ⟨rfl, by simp [PyData.depthAll]⟩
  | x :: r => by
    obtain ⟨h1, h2⟩ := h.all r
    have := h.dp x
    exact ⟨by simp [PyData.canLayAll0, h.cl x, h1], by simp [PyData.depthAll]; omega⟩
theorem EqE.alls (h : EqE n a) : ∀ xs ys : List α, PyData.eqvAll (xs.map a) (ys.map a) = true ↔ xs = ys
  | [], [] => by simp [PyData.eqvAll]
  | [], _ :: _ => by simp [PyData.eqvAll]
  | _ :: _, [] => by simp [PyData.eqvAll]
  | x :: xs, y :: ys => by simp [PyData.eqvAll, h.eq, h.alls xs ys]
theorem EqE.V (h : EqE n a) : EqE (n + 1) (eV a) := ⟨fun x => by simp [PyData.canLay0, h.all], fun x => by have := (h.all x).2; simp [PyData.depth]; omega, fun x y => by simp [PyData.eqv, h.alls]⟩
theorem EqE.L (h : EqE n a) : EqE (n + 1) (eL a) := ⟨fun x => by simp [PyData.canLay0, h.all], fun x => by have := (h.all x).2; simp [PyData.depth]; omega, fun x y => by simp [PyData.eqv, h.alls]⟩
theorem EqE.T3 (h : EqE n a) (h2 : EqE n b) (h3 : EqE n c) : EqE (n + 1) (eT3 a b c) := ⟨fun x => by simp [PyData.canLay0, PyData.canLayAll0, h.cl, h2.cl, h3.cl], fun x => by have := h.dp x.1; have := h2.dp x.2.1; have := h3.dp x.2.2; simp [PyData.depth, PyData.depthAll]; omega, fun x y => by obtain ⟨x1, x2, x3⟩ := x; obtain ⟨y1, y2, y3⟩ := y; simp [PyData.eqv, PyData.eqvAll, h.eq, h2.eq, h3.eq]⟩
theorem EqE.T4 (h : EqE n a) (h2 : EqE n b) (h3 : EqE n c) (h4 : EqE n d) : EqE (n + 1) (eT4 a b c d) := ⟨fun x => by simp [PyData.canLay0, PyData.canLayAll0, h.cl, h2.cl, h3.cl, h4.cl], fun x => by have := h.dp x.1; have := h2.dp x.2.1; have := h3.dp x.2.2.1; have := h4.dp x.2.2.2; simp [PyData.depth, PyData.depthAll]; omega, fun x y => by obtain ⟨x1, x2, x3, x4⟩ := x; obtain ⟨y1, y2, y3, y4⟩ := y; simp [PyData.eqv, PyData.eqvAll, h.eq, h2.eq, h3.eq, h4.eq]⟩
theorem EqE.up {m : Nat} (h : EqE n a) (hm : n ≤ m) : EqE m a := ⟨h.cl, fun x => Nat.le_trans (h.dp x) hm, h.eq⟩
theorem EqE.eqB (h : EqE n a) (hn : n ≤ 64) (x y : α) : eqB (a x) (a y) = some (PyData.eqv (a x) (a y)) := by
  have s : ∀ x, SeqAt.shaped (a x) = true := fun x => by
    have := h.dp x
    have h1 : (a x).depth ≤ 64 := by omega
    simp [SeqAt.shaped, h.cl x, h1]
  unfold DL.eqB
  split
  · rename_i x' y' h1 h2; rw [h1, h2]; simp only [PyData.eqv]
  · rw [s x, s y]; rfl
theorem o_eqE [DecidableEq α] (h : EqE n a) (hn : n ≤ 64) (x y : α) : eqD (a x) (a y) = some (.bool (decide (x = y))) := by
  unfold eqD
  rw [h.eqB hn]
  have : PyData.eqv (a x) (a y) = decide (x = y) := by
    have := h.eq x y
    by_cases e : x = y
    · simp [e, (h.eq y y).2 rfl]
    · have h2 : ¬ PyData.eqv (a x) (a y) = true := fun z => e (this.1 z)
      simp [e]; simpa using h2
  rw [this]; rfl
theorem o_neE [DecidableEq α] (h : EqE n a) (hn : n ≤ 64) (x y : α) : neD (a x) (a y) = some (.bool (!decide (x = y))) := by
  have := o_eqE h hn x y
  unfold eqD at this
  unfold neD
  cases e : DL.eqB (a x) (a y) with
  | none => rw [e] at this; cases this
  | some z => rw [e] at this; simp at this; subst this; rfl
end
theorem o_isN {α : Type} (e : α → D) (h : ∀ x, isNo (e x) = false) (x : Option α) : isD (eO e x) .none = some (.bool x.isNone) := by
  cases x with
  | none => rfl
  | some y =>
    have := h y
    show isD (e y) .none = _
    unfold isD
    split <;> simp_all
noncomputable def catT {α : Type} (xs ys : List α) : Option (List α) := if xs.length + ys.length ≤ sizeLine then some (xs ++ ys) else none
theorem o_catV {α : Type} (f : α → D) (xs ys : List α) : addD (eV f xs) (eV f ys) = (catT xs ys).map (eV f) := by
  simp only [eV, addD, catT, List.length_map]
  by_cases h : xs.length + ys.length ≤ sizeLine
  · rw [if_pos h, if_pos h, Option.map_some]; simp
  · rw [if_neg h, if_neg h, Option.map_none]
theorem o_catL {α : Type} (f : α → D) (xs ys : List α) : addD (eL f xs) (eL f ys) = (catT xs ys).map (eL f) := by
  simp only [eL, addD, catT, List.length_map]
  by_cases h : xs.length + ys.length ≤ sizeLine
  · rw [if_pos h, if_pos h, Option.map_some]; simp
  · rw [if_neg h, if_neg h, Option.map_none]
noncomputable def mulT (i j : Int) : Option Int := if (smallI j || smallI i || decide (i.natAbs.log2 + j.natAbs.log2 < 1000000)) = true then some (i * j) else none
theorem o_mulT (i j : Int) : mulD (.int i) (.int j) = (mulT i j).map .int := by simp only [mulD, mulT]; generalize (smallI j || smallI i || decide (i.natAbs.log2 + j.natAbs.log2 < 1000000)) = z; cases z <;> rfl
theorem o_fdivC {i j : Int} (h : 0 < j ∧ j.natAbs.log2 < 9000) : fdivD (.int i) (.int j) = some (.int (i / j)) := by simp only [fdivD]; rw [if_pos h]
noncomputable def modT (i j : Int) : Option Int := if 0 < j then some (i % j) else none
theorem o_modT (i j : Int) : modD (.int i) (.int j) = (modT i j).map .int := by
  simp only [modD, modT]
  by_cases h : 0 < j
  · rw [if_pos h, if_pos h, Option.map_some]
  · rw [if_neg h, if_neg h, Option.map_none]
noncomputable def divmodT (i j : Int) : Option (Int × Int) := if 0 < j ∧ j < 1073741824 then some (i / j, i % j) else none
theorem o_divmodT (i j : Int) : divmodD [.int i, .int j] = (divmodT i j).map (eT2 eI eI) := by
  simp only [divmodD, divmodT]
  by_cases h : 0 < j ∧ j < 1073741824
  · rw [if_pos h, if_pos h, Option.map_some]
  · rw [if_neg h, if_neg h, Option.map_none]
theorem o_min2 (i j : Int) : min2D [.int i, .int j] = some (.int (min i j)) := by
  simp only [min2D]; congr 2; split <;> omega
theorem o_max2 (i j : Int) : max2D [.int i, .int j] = some (.int (max i j)) := by
  simp only [max2D]; congr 2; split <;> omega
theorem o_abs (i : Int) : absD [.int i] = some (.int (i.natAbs : Int)) := by
  simp only [absD]; congr 2; split <;> omega
theorem o_lenL {α : Type} (f : α → D) (xs : List α) : lenD [eL f xs] = some (.int (xs.length : Int)) := by simp [lenD]
theorem o_lenV {α : Type} (f : α → D) (xs : List α) : lenD [eV f xs] = some (.int (xs.length : Int)) := by simp [lenD]
theorem o_lenK {α : Type} (f : α → D) (xs : List (Int × α)) : lenD [eK f xs] = some (.int (xs.length : Int)) := by simp [lenD, eK, objD, dicE]
noncomputable def lenT : D → Option Int
  | .list xs => some xs.length
  | .tuple xs => some xs.length
  | .dict xs => some xs.length
  | .str x => if x.length ≤ sizeLine then some x.length else none
  | _ => none
theorem o_lenD (d : D) : lenD [d] = (lenT d).map .int := by
  cases d <;> try rfl
  rename_i x; simp only [lenD, lenT]
  by_cases h : x.length ≤ sizeLine
  · rw [if_pos h, if_pos h, Option.map_some]
  · rw [if_neg h, if_neg h, Option.map_none]
theorem o_sum (xs : List Int) : sumD [eL eI xs] = some (.int xs.sum) := by
  simp only [sumD, eL]; rw [show xs.map eI = intl xs from rfl, intsOf_ints]; rfl
theorem o_all (xs : List Bool) : allBD [eL eB xs] = some (.bool (xs.all id)) := by
  simp only [allBD, eL]; rw [show xs.map eB = bls xs from rfl, blsOf_bls]; rfl
theorem atI_map {α : Type} (f : α → D) (xs : List α) (i : Int) : atI (xs.map f) i = (atI xs i).map f := by
  unfold atI
  rw [List.length_map]
  cases ixN xs.length i with
  | none => rfl
  | some j => simp
theorem o_ixL {α : Type} (f : α → D) (xs : List α) (i : Int) : ixD (eL f xs) (.int i) = (atI xs i).map f := atI_map f xs i
theorem o_ixV {α : Type} (f : α → D) (xs : List α) (i : Int) : ixD (eV f xs) (.int i) = (atI xs i).map f := atI_map f xs i
noncomputable def keyI : D → Option Int
  | .int i => some i
  | _ => none
theorem keyI_ok {d : D} {i : Int} (h : keyI d = some i) : d = .int i := by
  cases d <;> simp [keyI] at h
  rw [h]
noncomputable def getT {α : Type} (m : List (Int × α)) (k : Int) : Option α := (m.find? fun p => decide (p.1 = k)).map (·.2)
theorem dget_cons (d : D × D) (r : List (D × D)) (k : Key) : dget (d :: r) k = if keyOf d.1 = some k then some d.2 else dget r k := by
  unfold dget
  rw [List.find?_cons]
  by_cases h : keyOf d.1 = some k
  · simp [h]
  · simp [h]
theorem getT_cons {α : Type} (p : Int × α) (r : List (Int × α)) (k : Int) : getT (p :: r) k = if p.1 = k then some p.2 else getT r k := by
  unfold getT
  rw [List.find?_cons]
  by_cases h : p.1 = k
  · simp [h]
  · simp [h]
theorem dget_E {α : Type} (f : α → D) (m : List (Int × α)) (k : Int) : dget ((dicE f m).map fun p => (keyD p.1, p.2)) (.inl k) = (getT m k).map f := by
  induction m with
  | nil => rfl
  | cons p r ih =>
    rw [getT_cons]
    show dget ((PyData.int p.1, f p.2) :: _) (.inl k) = _
    rw [dget_cons]
    by_cases h : p.1 = k
    · rw [if_pos h, if_pos (by simp [keyOf, h])]; rfl
    · rw [if_neg h, if_neg (by simp [keyOf, h])]; exact ih
theorem o_ixK {α : Type} (f : α → D) (m : List (Int × α)) (k : Int) : ixD (eK f m) (.int k) = (getT m k).map f := by
  show ((keyOf (.int k)).bind (dget _)) = _
  exact dget_E f m k
theorem o_slL {α : Type} (f : α → D) (xs : List α) (lo hi : Option Int) : slD lo hi (eL f xs) = some (eL f (cutD xs lo hi)) := by simp [slD, eL, cutD_map]
theorem o_slV {α : Type} (f : α → D) (xs : List α) (lo hi : Option Int) : slD lo hi (eV f xs) = some (eV f (cutD xs lo hi)) := by simp [slD, eV, cutD_map]
theorem o_revV {α : Type} (f : α → D) (xs : List α) : revD (eV f xs) = some (eV f xs.reverse) := by simp [revD, eV]
noncomputable def getX {α : Type} (m : List (Int × α)) (d : D) : Option α := (keyI d).bind (getT m)
theorem o_ixKX {α : Type} (f : α → D) (m : List (Int × α)) (d : D) : ∀ a, getX m d = some a → ixD (eK f m) d = some (f a) := fun a h => by
  cases hk : keyI d with
  | none => simp [getX, hk] at h
  | some i =>
    rw [keyI_ok hk, o_ixK]
    simp [getX, hk] at h
    rw [h]; rfl
noncomputable def inX {α : Type} (m : List (Int × α)) (d : D) : Option Bool := (keyI d).map fun i => (getT m i).isSome
theorem o_inK {α : Type} (f : α → D) (x : Int) (m : List (Int × α)) : inD (.int x) (eK f m) = some (.bool (getT m x).isSome) := by
  show ((keyOf (.int x)).map fun k => (dget _ k).isSome).map PyData.bool = _
  simp only [keyOf, Option.map, dget_E]
  cases getT m x <;> rfl
theorem o_ninK {α : Type} (f : α → D) (x : Int) (m : List (Int × α)) : ninD (.int x) (eK f m) = some (.bool (!(getT m x).isSome)) := by
  show ((keyOf (.int x)).map fun k => (dget _ k).isSome).map (fun k => PyData.bool !k) = _
  simp only [keyOf, Option.map, dget_E]
  cases getT m x <;> rfl
theorem o_inKX {α : Type} (f : α → D) (d : D) (m : List (Int × α)) : ∀ a, inX m d = some a → inD d (eK f m) = some (eB a) := fun a h => by
  cases hk : keyI d with
  | none => simp [inX, hk] at h
  | some i =>
    rw [keyI_ok hk, o_inK]
    simp [inX, hk] at h
    rw [h]
theorem o_inX (a b : D) : inD a b = (inB a b).map .bool := rfl
theorem map_id' (o : Option D) : o = o.map eD := by cases o <;> rfl
noncomputable def cmpT (p : Int → Int → Bool) : D → D → Option Bool
  | .int i, .int j => some (p i j)
  | _, _ => none
theorem o_cmpT (p : Int → Int → Bool) (a b : D) : cmpD p a b = (cmpT p a b).map .bool := by cases a <;> cases b <;> rfl
noncomputable def un3 : D → Option (D × D × D)
  | .tuple [a, b, c] => some (a, b, c)
  | _ => none
noncomputable def un4 : D → Option (D × D × D × D)
  | .tuple [a, b, c, d] => some (a, b, c, d)
  | _ => none
section
variable {β : Type} {Γ : Gx β} {A : AS} {κ : AS → Q β → Prop}
theorem cg_un {α : Type} {g : Tg} {d : D} {o : Option α} {k : α → Q β} (f : α → D) (ho : ∀ a, o = some a → d = f a) (h : ∀ a, CG g (f a) A (k a) κ Γ) : CG g d A ((Q.of o).bind k) κ Γ := by
  cases o with
  | none => exact fun ρ S ρ0 k' E hc => trivial
  | some a => rw [ho a rfl]; exact h a
theorem un3_ok {d : D} : ∀ a, un3 d = some a → d = eT3 eD eD eD a := fun a h => by
  unfold un3 at h; split at h
  · cases h; rfl
  · cases h
theorem un4_ok {d : D} : ∀ a, un4 d = some a → d = eT4 eD eD eD eD a := fun a h => by
  unfold un4 at h; split at h
  · cases h; rfl
  · cases h
end
noncomputable def itT : D → Option (List D)
  | .list xs => some xs
  | .tuple xs => some xs
  | _ => none
section
variable {β : Type} {Γ : Gx β} {A : AS} {t : Q β}
theorem ci_seqD {e : Ex} {κ : List D → AS → Q β → Prop} (h : CE e A t (fun rv B t' => ∃ d k, rv = .dat d ∧ t' = (Q.of (itT d)).bind k ∧ ∀ xs, κ (List.map eD xs) B (k xs)) Γ) : CI (itSeq e) A t κ Γ := fun ρ S k E hc => by
  simp only [itSeq, bind_st]
  refine h ρ S _ E fun rv v B S' t' h1 E1 q1 => ?_
  obtain ⟨d, k2, rfl, rfl, hk⟩ := h1
  cases q1
  cases d with
  | list xs => have := hk xs; rw [show List.map eD xs = xs from by simp [eD]] at this; exact hc _ _ _ _ this E1
  | tuple xs => have := hk xs; rw [show List.map eD xs = xs from by simp [eD]] at this; exact hc _ _ _ _ this E1
  | _ => trivial
end
theorem keys_T {α : Type} (f : α → D) (m : List (Int × α)) : ((dicE f m).map fun p => (keyD p.1, p.2)).map (·.1) = (m.map fun p => p.1).map eI := by
  simp [dicE, keyD, Function.comp_def]
theorem leB {a b : Nat} (h : Nat.ble a b = true) : a ≤ b := Nat.le_of_ble_eq_true h
section
variable {β : Type} {Γ : Gx β} {A : AS} {t : Q β}
theorem ce_chainQ {op op' : D → D → Option D} {fa fb fc : Ex} {κ : RV → AS → Q β → Prop}
    (h : CE fa A t (fun r1 A1 t1 => CE fb A1 t1 (fun r2 A2 t2 => ∃ (d1 d2 : D) (o' : Option Bool) (k : Bool → Q β), r1 = .dat d1 ∧ r2 = .dat d2 ∧ op d1 d2 = o'.map .bool ∧ t2 = (Q.of o').bind k ∧ ∀ p, (p = true → CE fc A2 (k p) (fun r3 A3 t3 => ∃ d3, r3 = .dat d3 ∧ Fin (op' d2 d3) A3 t3 κ) Γ) ∧ (p = false → κ (.dat (.bool false)) A2 (k p))) Γ) Γ) : CE (eChain op op' fa fb fc) A t κ Γ := fun ρ S k E hc => by
  simp only [eChain, bind_st]
  refine h ρ S _ E fun r1 v1 B1 S1 t1 h1 E1 q1 => ?_
  refine h1 ρ S1 _ E1 fun r2 v2 B2 S2 t2 h2 E2 q2 => ?_
  obtain ⟨d1, d2, o', k2, rfl, rfl, ho, rfl, hp⟩ := h2
  cases q1; cases q2
  cases o' with
  | none => trivial
  | some p =>
    have e2 : op2 op (.d d1) (.d d2) S2 = .ok (.d (.bool p)) S2 := by simp only [op2, look, Option.bind, ho, ofO, Option.map]
    rw [e2]
    cases p with
    | false => exact hc _ _ _ _ _ ((hp false).2 rfl) E2 rfl
    | true =>
      show Ref Γ (((fc ρ S2).bind fun x S4 => op2 op' (.d d2) x S4).st ρ k) (k2 true)
      rw [bind_st]
      refine (hp true).1 rfl ρ S2 _ E2 fun r3 v3 B3 S3 t3 h3 E3 q3 => ?_
      obtain ⟨d3, rfl, hf⟩ := h3
      cases q3
      exact ref_ofO E3 hf hc
theorem ci_enumD {f : La} {κ : List D → AS → Q β → Prop} (h : CA f A t (fun rvs B t' => ∃ d k, rvs = [.dat d] ∧ t' = (Q.of (itT d)).bind k ∧ ∀ xs, κ (enumD 0 (List.map eD xs)) B (k xs)) Γ) : CI (itEnum f) A t κ Γ := fun ρ S k E hc => by
  simp only [itEnum, bind_st]
  refine h ρ S _ E fun rvs vs B S' t' h1 E1 q1 _ => ?_
  obtain ⟨d, k2, rfl, rfl, hk⟩ := h1
  obtain ⟨v, rfl, q⟩ := q1.one
  cases q
  have hm : ∀ xs : List D, List.map eD xs = xs := fun xs => by simp [eD]
  cases d with
  | list xs => have := hk xs; rw [hm] at this; exact hc _ _ _ _ this E1
  | tuple xs => have := hk xs; rw [hm] at this; exact hc _ _ _ _ this E1
  | _ => trivial
theorem cb_putDX {α : Type} {i : Nat} {ei e : Ex} {κ : AS → Q β → Prop} (f : α → D)
    (h : CE e A t (fun rv A1 t1 => IsOb A1 i ∧ CE ei A1 t1 (fun rj B t' => ∃ (d : D) (m : List (Int × α)) (x : α) (sv : SV) (k : Int → Unit → Q β), rj = .dat d ∧ rv = .dat (f x) ∧ Ob B i (.dic (dicE f m)) sv ∧ t' = (Q.of (keyI d)).bind (fun j => (Q.of (roomT m.length)).bind (k j)) ∧ ∀ j, κ (B.set i (some (sv.wo (.dic (dicE f (putT m j x)))))) (k j ())) Γ) Γ) :
    CB (sPut setD (eVar i) ei e) A t κ Γ := fun ρ S k E hc => by
  simp only [sPut, st_fl]
  refine h ρ S _ E fun rv v A1 S1 t1 h1 E1 q1 => ?_
  obtain ⟨n, sv0, o0, g0, g1, g2, g3⟩ := h1.1.at E1
  rw [eVar_st g1]
  refine h1.2 ρ S1 _ E1 fun rj v2 B S' t' h2 E2 q2 => ?_
  obtain ⟨d, m, x, sv, k2, rfl, rfl, ho, rfl, hk⟩ := h2
  cases q1; cases q2
  obtain ⟨m', e0, e1, e2⟩ := ho.get E2
  rw [g1] at e1; cases e1
  cases hd : keyI d with
  | none => trivial
  | some j =>
    cases keyI_ok hd
    have hl : (dicE f m).length = m.length := by simp [dicE]
    simp only [Q.of_some, Q.ok_bind]
    unfold roomT
    by_cases hz : m.length < sizeLine
    · rw [if_pos hz]
      simp only [setD, e2, keyOf, hl, hz, if_true, R.st, R.fl, Q.of_some, Q.ok_bind]
      refine hc _ _ _ _ (hk j) ?_
      rw [putKD_E]
      exact E2.setO _ e0 g1 ho.sv rfl
    · rw [if_neg hz]; trivial
end
theorem pe_p384 {A : AS} : PE1 (eBin mulD (eBin mulD (eBin mulD (eBin mulD (eBin mulD (eBin powD (eC (.int 10)) (eC (.int 64))) (eBin powD (eC (.int 10)) (eC (.int 64)))) (eBin powD (eC (.int 10)) (eC (.int 64)))) (eBin powD (eC (.int 10)) (eC (.int 64)))) (eBin powD (eC (.int 10)) (eC (.int 64)))) (eBin powD (eC (.int 10)) (eC (.int 64)))) A (.int P384) :=
  have p : PE1 (eBin powD (eC (.int 10)) (eC (.int 64))) A (.int P64) := pe_bin (PE1.pl pe_c) (PE1.pl pe_c) pw64
  pe_bin (PE1.pl (pe_bin (PE1.pl (pe_bin (PE1.pl (pe_bin (PE1.pl (pe_bin (PE1.pl p) (PE1.pl p) ml128)) (PE1.pl p) ml192)) (PE1.pl p) ml256)) (PE1.pl p) ml320)) (PE1.pl p) ml384
section
variable {β : Type} {Γ : Gx β} {A : AS} {t : Q β}
theorem cl_foldI {α σ : Type} {tg : Tg} {g : Blk} {body : α → σ → Q σ} {t2 : σ → Q β} {κ : AS → Q β → Prop} {ds : List D} {xs : List α} {s0 : σ} (f : α → D) (AL : σ → AS)
    (hb : ∀ x s, CG tg (f x) (AL s) (body x s) (fun B t' => CB g B t' (fun C t'' => ∃ s', t'' = .ok s' ∧ Weak C (AL s')) (Gb Γ AL)) (Gb Γ AL))
    (hk : ∀ s, κ (AL s) (t2 s)) (hd : ds = xs.map f) (hw : Weak A (AL s0)) : CB (forL tg g ds) A ((foldQ xs s0 body).bind t2) κ Γ := cl_fold f AL hb hk hd hw
theorem cl_forI {α σ ρr : Type} {tg : Tg} {g : Blk} {body : α → σ → Q (LF σ ρr)} {t2 : σ → Q β} {t3 : ρr → Q β} {κ : AS → Q β → Prop} {ds : List D} {xs : List α} {s0 : σ} (f : α → D) (AL : σ → AS) (GR : RV → AS → ρr → Prop)
    (hb : ∀ x s, CG tg (f x) (AL s) (body x s) (fun B t' => CB g B t' (fun C t'' => ∃ s', t'' = .ok (.nx s') ∧ Weak C (AL s')) (Glf Γ AL GR)) (Glf Γ AL GR))
    (hk : ∀ s, κ (AL s) (t2 s)) (hr : ∀ v B r, GR v B r → ∃ a, t3 r = .ok a ∧ Γ.G (.rt v B) a) (hd : ds = xs.map f) (hw : Weak A (AL s0)) : CB (forL tg g ds) A ((forQ xs s0 body).lf t2 t3) κ Γ := cl_for f AL GR hb hk hr hd hw
theorem cl_whileI {σ : Type} {te : Te} {g : Blk} {c : σ → Q Bool} {body : σ → Q σ} {t2 : σ → Q β} {κ : AS → Q β → Prop} {n : Nat} {s0 : σ} (AL : σ → AS)
    (hc' : ∀ s, CT te (AL s) (c s) (fun b B t' => ∃ b', t' = .ok b' ∧ b = b' ∧ Weak B (AL s)) (Gj Γ (fun b => .dat (.bool b)) (fun _ => AL s)))
    (hb : ∀ s, CB g (AL s) (body s) (fun C t'' => ∃ s', t'' = .ok s' ∧ Weak C (AL s')) (Gb Γ AL))
    (hk : ∀ s, κ (AL s) (t2 s)) (hw : Weak A (AL s0)) : CB (whileN te g n) A ((whileS c body n s0).bind t2) κ Γ := cl_while AL hc' hb hk hw
end
theorem np_n : NoPar [] := fun sv h => by simp at h
theorem np_d {d : D} {r : List SV} (h : NoPar r) : NoPar (.dat d :: r) := fun sv hs => by
  simp only [List.mem_cons] at hs
  rcases hs with rfl | hs
  · rfl
  · exact h sv hs
theorem np_o {x : O} {r : List SV} (h : NoPar r) (hl : lf x = true := by rfl) : NoPar (.ob x :: r) := fun sv hs => by
  simp only [List.mem_cons] at hs
  rcases hs with rfl | hs
  · exact hl
  · exact h sv hs
theorem np_s {x : List D} {r : List SV} (h : NoPar r) : NoPar (.scr x :: r) := fun sv hs => by
  simp only [List.mem_cons] at hs
  rcases hs with rfl | hs
  · rfl
  · exact h sv hs
theorem hvs_nil {σ : Type} {AL : σ → AS} : ∀ v ∈ ([] : List Nat), ∀ s sv, (AL s)[v]? ≠ some (some sv) := fun v h => by simp at h
theorem hvs_cons {σ : Type} {AL : σ → AS} {v0 : Nat} {vs : List Nat} (h : ∀ s, (AL s)[v0]? = some none) (t : ∀ v ∈ vs, ∀ s sv, (AL s)[v]? ≠ some (some sv)) : ∀ v ∈ v0 :: vs, ∀ s sv, (AL s)[v]? ≠ some (some sv) := fun v hv s sv e => by
  simp only [List.mem_cons] at hv
  rcases hv with rfl | hv
  · rw [h s] at e; cases e
  · exact t v hv s sv e
theorem rf_fnA {α : Type} {n : Nat} {b : Blk} {as : List SV} {t : Q α} {v : α → SV} {os : α → List O} (A0 : AS) (is : List Nat) (hp : NoPar as) (hm : (objs as).length = is.length) (hA : inA as 0 ++ List.replicate n none = A0)
    (h : CB b A0 t (fun B t' => ∃ a, t' = .ok a ∧ v a = .dat .none ∧ Prs is 0 B (os a)) (Gf is v os)) : RFn (mkFn n b) as t v os := rf_fn is hp hm (by rw [hA]; exact h)
theorem rf_law {F : Fn} (T : List Int → Q Bool) (h : ∀ ns, RFn F [.scr (ns.map .int)] (T ns) (fun r => .dat (.bool r)) (fun _ => [])) (ht : ∀ ns : List Int, ns.length ≤ 63 → T ns = .ok true) : LawTrue F := fun ns hl => by
  have := h ns
  rw [ht ns hl] at this
  obtain ⟨w, S', e1, e2, e3, e5, e4⟩ := this.run
  cases (show w = .d (.bool true) from e4)
  exact ⟨S', e1⟩
end DL
namespace DL
open PySem L2
section
variable {β : Type} {Γ : Gx β} {A : AS} {t : Q β}
theorem Env.fresh {ρ : Ev} {S : Sto} {n : Nat} {o : O} (hn : Fresh A ρ S n) {m j : Nat} (hj : j < A.length → j < ρ.length) (hm : m ≠ n) {o' : O} : Fresh (A.set j (some (.ob o'))) (ρ.set j (some (.loc m))) S n := fun i sv v L hi hv hv2 hl => by
  rcases getset hi with ⟨rfl, e⟩ | ⟨q, hi⟩
  · cases e
    rcases getset hv with ⟨_, e⟩ | ⟨q, _⟩
    · cases e
      obtain ⟨k, e, _, _, rfl⟩ := hv2
      cases e
      simp at hl
      exact hm hl.symm
    · exact q rfl
  · rcases getset hv with ⟨z, _⟩ | ⟨_, hv⟩
    · exact q z
    · exact hn i sv v L hi hv hv2 hl
theorem rep_map {α : Type} (f : α → D) (xs : List α) : ∀ n : Nat, (List.replicate n (xs.map f)).flatten = ((List.replicate n xs).flatten).map f
  | 0 => rfl
  | n + 1 => by rw [List.replicate_succ, List.replicate_succ, List.flatten_cons, List.flatten_cons, List.map_append, rep_map f xs n]
theorem ce_opt {α : Type} {e : Ex} {κ : RV → AS → Q β → Prop} (f : α → D) (h : CE e A t (fun rv B t' => ∃ (o : Option α) (k : α → Q β), rv = .dat (eO f o) ∧ t' = (Q.of o).bind k ∧ ∀ v, κ (.dat (f v)) B (k v)) Γ) : CE e A t κ Γ := fun ρ S k E hc => by
  refine h ρ S _ E fun r1 v1 B S1 t1 h1 E1 q1 => ?_
  obtain ⟨o, k2, rfl, rfl, hk⟩ := h1
  cases o with
  | none => trivial
  | some v => exact hc _ _ _ _ _ (hk v) E1 q1
end
end DL
namespace DL
open PySem L2
noncomputable def istep (i c : Int) (n : Nat) : List Int := (List.range n).map fun k => i + (k : Nat) * c
@[irreducible] noncomputable def rgT3 (i j c : Int) : Option (List Int) := if -1000000 ≤ i ∧ i ≤ 1000000 ∧ -1000000 ≤ j ∧ j ≤ 1000000 ∧ (1 ≤ c ∨ c = -1) ∧ c ≤ 1000 then some (istep i c (Builtin.Range.rangeSize i j c).toNat) else none
theorem rgI3_T (i j c : Int) : rgI3 i j c = (rgT3 i j c).map fun xs => xs.map PyData.int := by
  unfold rgI3 rgT3
  split
  · simp [stepD, istep]
  · rfl
theorem rgT3_ok {i j c : Int} (h0 : -1000000 ≤ i) (h1 : i ≤ 1000000) (h2 : j ≤ 1000000) (h3 : -1000000 ≤ j) (h4 : 1 ≤ c) (h5 : c ≤ 1000) : rgT3 i j c = some (istep i c (Builtin.Range.rangeSize i j c).toNat) := by
  unfold rgT3; rw [if_pos (by omega)]
theorem mem_istep {i c x : Int} {n : Nat} (h : x ∈ istep i c n) : ∃ k : Nat, k < n ∧ x = i + k * c := by
  unfold istep at h
  obtain ⟨k, hk, rfl⟩ := List.mem_map.mp h
  exact ⟨k, List.mem_range.mp hk, rfl⟩
theorem mem_rgT3 {i j c x : Int} (h4 : 1 ≤ c) (h : x ∈ istep i c (Builtin.Range.rangeSize i j c).toNat) : i ≤ x ∧ x < j := by
  obtain ⟨k, hk, rfl⟩ := mem_istep h
  unfold Builtin.Range.rangeSize at hk
  rw [if_pos (by omega)] at hk
  split at hk
  · have h1 : (k : Int) ≤ (j - i - 1) / c := by omega
    have h2 : (k : Int) * c ≤ (j - i - 1) / c * c := Int.mul_le_mul_of_nonneg_right h1 (by omega)
    have h3 := Int.ediv_mul_le (j - i - 1) (show c ≠ 0 by omega)
    have h5 : 0 ≤ (k : Int) * c := Int.mul_nonneg (by omega) (by omega)
    omega
  · simp at hk
section
variable {β : Type} {Γ : Gx β} {A : AS} {t : Q β}
theorem VRs.three {ρ : Ev} {S : Sto} {r r' r'' : RV} {vs : List Val} (h : VRs A ρ S [r, r', r''] vs) : ∃ v v' v'', vs = [v, v', v''] ∧ VR A ρ S r v ∧ VR A ρ S r' v' ∧ VR A ρ S r'' v'' := by
  cases h with
  | cons h t => cases t with
    | cons h' t => cases t with
      | cons h'' t => cases t; exact ⟨_, _, _, rfl, h, h', h''⟩
theorem ci_r3 {f : La} {κ : List D → AS → Q β → Prop} (h : CA f A t (fun rvs B t' => ∃ i j c k, rvs = [.dat (.int i), .dat (.int j), .dat (.int c)] ∧ t' = (Q.of (rgT3 i j c)).bind k ∧ ∀ xs, κ (xs.map .int) B (k xs)) Γ) : CI (itR3p f) A t κ Γ := fun ρ S k E hc => by
  simp only [itR3p, bind_st]
  refine h ρ S _ E fun rvs vs B S' t' h1 E1 q1 _ => ?_
  obtain ⟨i, j, c, k2, rfl, rfl, hk⟩ := h1
  obtain ⟨v, w, u, rfl, q, q', q''⟩ := q1.three
  cases q; cases q'; cases q''
  simp only
  rw [rgI3_T]
  cases rgT3 i j c with
  | none => trivial
  | some xs => exact hc _ _ _ _ (hk xs) E1
end
end DL
namespace DL
open PySem L2
section
variable {β : Type} {Γ : Gx β} {A : AS} {t : Q β}
theorem cb_at {g : Blk} {κ : AS → Q β → Prop} (B : AS) (h : A = B) (d : CB g B t κ Γ) : CB g A t κ Γ := h ▸ d
end
section
variable {A : AS}
end
end DL
namespace DL
open PySem L2
theorem Env.setE {A : AS} {ρ : Ev} {S : Sto} (E : Env A ρ S) (i : Nat) (o : Option XV) : Env (A.set i (some (.er o))) (ρ.set i (some (erV o))) S := E.setV i _ _ [] ⟨rfl, rfl⟩ (fun n h => by simp at h)
section
variable {β : Type} {Γ : Gx β} {A : AS} {t : Q β}
theorem ce_er {i : Nat} {o : Option XV} {κ : RV → AS → Q β → Prop} (h : A[i]? = some (some (.er o))) (hk : κ (.er o) A t) : CE (eVar i) A t κ Γ := fun ρ S k E hc => by
  obtain ⟨v, h1, h2⟩ := E.at' i _ h
  cases h2
  simp only [eVar, h1, R.st]
  exact hc _ _ _ _ _ hk E rfl
noncomputable def tryQ {α : Type} (m : Str → Option Bool) (q : Q α) (h : XV → Q α) : Q α := match q with
  | .exc x _ => if m x.cls = some true then (h x).noX else .bad
  | q => q
@[simp] theorem tryQ_ok {α : Type} (m : Str → Option Bool) (a : α) (h : XV → Q α) : tryQ m (.ok a) h = .ok a := by simp only [tryQ]
@[simp] theorem tryQ_exc {α : Type} (m : Str → Option Bool) (x : XV) (os : List TO) (h : XV → Q α) : tryQ m (.exc x os) h = if m x.cls = some true then (h x).noX else .bad := by simp only [tryQ]
theorem cb_tryE {σ ρr : Type} {m : Str → Option Bool} {i : Nat} {g hb : Blk} {q : Q (LF σ ρr)} {hq : XV → Q (LF σ ρr)} {t2 : σ → Q β} {t3 : ρr → Q β} {κ : AS → Q β → Prop} (A0 : AS) (AL : σ → AS) (GR : RV → AS → ρr → Prop)
    (h1 : CB g A q (fun B t => ∃ s, t = .ok (.nx s) ∧ Weak B (AL s)) ⟨fun fl l => match fl, l with | .nx B, .nx s => Weak B (AL s) | .rt v B, .rt r => GR v B r | _, _ => False, fun B _ => Weak B A0⟩)
    (h2 : ∀ x, CB hb (A0.set i (some (.er (some x)))) (hq x) (fun B t => ∃ s, t = .ok (.nx s) ∧ Weak (B.set i none) (AL s)) ⟨fun fl l => match fl, l with | .nx B, .nx s => Weak (B.set i none) (AL s) | .rt v B, .rt r => GR v B r | _, _ => False, fun _ _ => True⟩)
    (hk : ∀ s, κ (AL s) (t2 s)) (hr : ∀ v B r, GR v B r → ∃ a, t3 r = .ok a ∧ Γ.G (.rt v B) a) : CB (sTryE m i g hb) A ((tryQ m q hq).lf t2 t3) κ Γ := by
  refine cb_joinR AL GR (fun ρ S k E hc => ?_) hk hr
  have k1 := h1 ρ S (fun ρ' S' => .ok (.nx ρ') S') E fun B ρ' S' t' ⟨s, h1, h2⟩ E1 => by
    subst h1; exact ⟨.nx B, E1, h2⟩
  rw [fl_id] at k1
  cases q with
  | bad => trivial
  | ok l =>
    obtain ⟨fl, m1, g1⟩ := k1
    cases fl with
    | nx B =>
      cases l with
      | nx s =>
        cases he : g ρ S with
        | ok f S' =>
          rw [he] at m1
          cases f with
          | nx ρ' =>
            have : sTryE m i g hb ρ S = .ok (.nx ρ') S' := by simp only [sTryE, he]
            rw [this]
            exact hc _ _ _ _ ⟨s, by simp only [tryQ], g1⟩ m1
          | _ => exact m1.elim
        | exc x S' => rw [he] at m1; exact m1.elim
        | bad => rw [he] at m1; exact m1.elim
      | _ => exact g1.elim
    | rt v B =>
      cases l with
      | rt r =>
        cases he : g ρ S with
        | ok f S' =>
          rw [he] at m1
          cases f with
          | rt w =>
            have : sTryE m i g hb ρ S = .ok (.rt w) S' := by simp only [sTryE, he]
            rw [this, tryQ_ok]
            exact ⟨.rt v B, m1, g1⟩
          | _ => exact m1.elim
        | exc x S' => rw [he] at m1; exact m1.elim
        | bad => rw [he] at m1; exact m1.elim
      | _ => exact g1.elim
    | bk B => cases l <;> exact g1.elim
    | ct B => cases l <;> exact g1.elim
  | exc x os =>
    obtain ⟨ρ1, S1, B, e1, e2, e3⟩ := k1
    rw [tryQ_exc]
    by_cases hm : m x.cls = some true
    · rw [if_pos hm]
      have E0 := (e2.weak e3).setE i (some x)
      have k2 := h2 x _ S1 (fun ρ' S' => .ok (.nx ρ') S') E0 fun B ρ' S' t' ⟨s, h1, h2⟩ E1 => by
        subst h1; exact ⟨.nx B, E1, h2⟩
      rw [fl_id] at k2
      have hs : sTryE m i g hb ρ S = unsetF i (hb (ρ1.set i (some (.er x))) S1) := by simp only [sTryE, e1, hm]
      rw [hs]
      cases hqx : hq x with
      | bad => trivial
      | exc y os => trivial
      | ok l =>
        rw [hqx] at k2
        obtain ⟨fl, m1, g1⟩ := k2
        have m1 : Mt (hb (ρ1.set i (some (.er x))) S1) fl := m1
        cases fl with
        | nx B =>
          cases l with
          | nx s =>
            cases he : hb (ρ1.set i (some (.er x))) S1 with
            | ok f S' =>
              rw [he] at m1
              cases f with
              | nx ρ' =>
                refine hc (B.set i none) _ _ _ ⟨s, by simp only [Q.noX], g1⟩ (Env.drop m1 i none)
              | _ => exact m1.elim
            | exc x S' => rw [he] at m1; exact m1.elim
            | bad => rw [he] at m1; exact m1.elim
          | _ => exact g1.elim
        | rt v B =>
          cases l with
          | rt r =>
            cases he : hb (ρ1.set i (some (.er x))) S1 with
            | ok f S' =>
              rw [he] at m1
              cases f with
              | rt w => exact ⟨.rt v B, m1, g1⟩
              | _ => exact m1.elim
            | exc x S' => rw [he] at m1; exact m1.elim
            | bad => rw [he] at m1; exact m1.elim
          | _ => exact g1.elim
        | bk B => cases l <;> exact g1.elim
        | ct B => cases l <;> exact g1.elim
    · rw [if_neg hm]; trivial
end
noncomputable def repVT {α : Type} (xs : List α) (k : Int) : Option (List α) := if -1000 ≤ k ∧ k ≤ 1000 ∧ xs.length ≤ 1000 then some (List.replicate k.toNat xs).flatten else none
theorem o_repV {α : Type} (f : α → D) (xs : List α) (k : Int) : repTD (eV f xs) (eI k) = (repVT xs k).map (eV f) := by
  show repTD (.tuple (xs.map f)) (.int k) = _
  simp only [repTD, repVT, List.length_map]
  by_cases h : -1000 ≤ k ∧ k ≤ 1000 ∧ xs.length ≤ 1000
  · rw [if_pos h, if_pos h, rep_map]; rfl
  · rw [if_neg h, if_neg h]; rfl
end DL
namespace DL
open PySem PySem.Spec L2
noncomputable def fldD : D → Option D
  | .int i => some (.int i)
  | .none => some .none
  | _ => none
noncomputable def xfD (tab : List Str) (f : Str) : Option XV → Option D
  | some x => if tab.contains x.cls then (match x.fld with
    | some p => if p.1 = f then some p.2 else none
    | none => none) else none
  | none => none
section
variable {β : Type} {A : AS} {t : Q β} {Γ : Gx β}
theorem cb_raiseF {C f : Str} {e : Ex} {d : D} {os : List TO} {κ : AS → Q β → Prop} (h : PE1 e A d) (hE : Γ.E A os) : CB (sRaiseF C f e) A ((Q.of (fldD d)).bind fun v => .exc { cls := C, fld := some (f, v) } os) κ Γ := fun ρ S k E hc => by
  simp only [sRaiseF, h ρ S E]
  cases d <;> first | trivial | exact ⟨ρ, S, A, rfl, E, hE⟩
theorem ce_xf {tab : List Str} {f : Str} {e : Ex} {κ : RV → AS → Q β → Prop} (h : CE e A t (fun r B t' => ∃ o, r = .er o ∧ Fin (xfD tab f o) B t' κ) Γ) : CE (eXF tab f e) A t κ Γ := fun ρ S k E hc => by
  simp only [eXF, bind_st]
  refine h ρ S _ E fun r v B S1 t1 h1 E1 q1 => ?_
  obtain ⟨o, rfl, hf⟩ := h1
  cases q1
  have e1 := ref_ofO (Γ := Γ) (k := k) E1 hf hc
  cases o with
  | none => exact e1
  | some x =>
    simp only [erV]
    simp only [xfD] at e1
    by_cases ct : tab.contains x.cls = true
    · simp only [ct, if_true] at e1 ⊢
      cases ef : x.fld with
      | none => simp only [ef] at e1 ⊢; exact e1
      | some p =>
        simp only [ef] at e1 ⊢
        by_cases cf : p.1 = f
        · simp only [cf, if_true] at e1 ⊢; exact e1
        · simp only [cf, if_false] at e1 ⊢; exact e1
    · have ct : tab.contains x.cls = false := by simpa using ct
      simp only [ct, Bool.false_eq_true, if_false] at e1 ⊢; exact e1
end
end DL
namespace DL
open PySem PySem.Spec L2
noncomputable def splitT (x y : Str) : Option (List Str) := if (y.length == 0) = false ∧ x.length + 2 ≤ sizeLine then some (Txt.split x y) else none
noncomputable def joinT (a : Str) (ys : List Str) : Option Str := if (ys.map (·.length)).sum + ys.length * a.length ≤ 16777216 then some (Txt.join a ys) else none
noncomputable def intST (a : Str) : Option Int := if a.length ≤ 640 then PySem.intText? a else none
noncomputable def showT (i : Int) : Option Str := if i.natAbs.log2 < 1920 then some (toString i) else none
noncomputable def slST (lo hi : Option Int) (z : Str) : Option Str := if z.length ≤ sizeLine then some (L2.cutS z lo hi) else none
noncomputable def atST (z : Str) (i : Int) : Option Str := if z.length ≤ sizeLine then (atI z.cps.toList i).map fun c => ⟨#[c]⟩ else none
noncomputable def signsT (x : Str) : Option (List Str) := if x.cps.size ≤ sizeLine then some (x.cps.toList.map fun c => ⟨#[c]⟩) else none
noncomputable def fsT : List (Option Str) → Str → Option Str
  | [], acc => some acc
  | p :: ps, acc => p.bind fun y => if (acc ++ y).length ≤ sizeLine then fsT ps (acc ++ y) else none
noncomputable def catST (x y : Str) : Option Str := if x.length + y.length ≤ sizeLine then some (x ++ y) else none
theorem o_catS (x y : Str) : addD (eS x) (eS y) = (catST x y).map eS := by
  simp only [addD, catST, eS]
  split <;> rfl
theorem o_split (x y : Str) : splitD (eS x) (eS y) = (splitT x y).map (eL eS) := by
  simp only [splitD, splitT, eS]
  split <;> rfl
theorem strsOf_map : ∀ ys : List Str, strsOf (ys.map eS) = some ys
  | [] => rfl
  | y :: ys => by
    show (strsOf (ys.map eS)).map _ = _
    rw [strsOf_map ys]; rfl
theorem o_joinL (a : Str) (ys : List Str) : joinD (eS a) ((eL eS) ys) = (joinT a ys).map eS := by
  show (strsOf (ys.map eS)).bind (joinS a) = _
  rw [strsOf_map]
  simp only [Option.bind_some, joinS, joinT]
  split <;> rfl
theorem o_intS (a : Str) : intSD [eS a] = (intST a).map .int := by
  simp only [intSD, intST, eS]
  split <;> rfl
theorem o_show (i : Int) : strD [eI i] = (showT i).map eS := by
  simp only [strD, showT, eI]
  split <;> rfl
theorem o_slS (lo hi : Option Int) (z : Str) : slD lo hi (eS z) = (slST lo hi z).map eS := by
  simp only [slD, slST, eS]
  split <;> rfl
theorem o_ixS (z : Str) (i : Int) : ixD (eS z) (eI i) = (atST z i).map eS := by
  simp only [ixD, atST, eS, eI]
  split
  · cases atI z.cps.toList i <;> rfl
  · rfl
section
variable {β : Type} {Γ : Gx β} {A : AS} {t : Q β}
theorem ce_sm {op : D → D → Option D} {fo fe : Ex} {κ : RV → AS → Q β → Prop}
    (h : CE fo A t (fun r1 A1 t1 => (∃ x, Lk A1 r1 (.str x)) ∧ CE fe A1 t1 (fun r2 A2 t2 => ∃ d1 d2, Lk A2 r1 d1 ∧ Lk A2 r2 d2 ∧ Fin (op d1 d2) A2 t2 κ) Γ) Γ) : CE (eSm op fo fe) A t κ Γ := fun ρ S k E hc => by
  simp only [eSm, bind_st]
  refine h ρ S _ E fun r1 v1 B1 S1 t1 h1 E1 q1 => ?_
  obtain ⟨⟨ds, l0⟩, h1⟩ := h1
  simp only [Lk.look E1 (q1.one l0.r) l0, bind_st]
  refine h1 ρ S1 _ E1 fun r2 v2 B2 S2 t2 h2 E2 q2 => ?_
  obtain ⟨d1, d2, l1, l2, hf⟩ := h2
  simp only [op2, Lk.look E2 (q1.one l1.r) l1, Lk.look E2 (q2.one l2.r) l2, Option.bind]
  exact ref_ofO E2 hf hc
theorem ci_str {e : Ex} {κ : List D → AS → Q β → Prop} (h : CE e A t (fun rv B t' => ∃ (x : Str) (k : List Str → Q β), rv = .dat (eS x) ∧ t' = (Q.of (signsT x)).bind k ∧ ∀ xs, κ (List.map eS xs) B (k xs)) Γ) : CI (itStr e) A t κ Γ := fun ρ S k E hc => by
  simp only [itStr, bind_st]
  refine h ρ S _ E fun rv v B S' t' h1 E1 q1 => ?_
  obtain ⟨x, k2, rfl, rfl, hk⟩ := h1
  cases q1
  simp only [eS, signsT]
  split
  · have := hk (x.cps.toList.map fun c => ⟨#[c]⟩)
    refine hc _ _ _ _ ?_ E1
    simpa [signsD, Q.of_some, eS, Function.comp_def] using this
  · simp only [Q.of, Q.bind]; trivial
noncomputable def PFs (A : AS) (fs : List Ex) (ps : List (Option Str)) : Prop := ∀ acc ρ S, Env A ρ S → eJs fs acc ρ S = ofO ((fsT ps acc).map .str) S
theorem pfs_nil : PFs A [] [] := fun acc ρ S E => rfl
theorem pfs_s {f : Ex} {fs : List Ex} {s : Str} {ps : List (Option Str)} (h : PE1 f A (.str s)) (hr : PFs A fs ps) : PFs A (f :: fs) (some s :: ps) := fun acc ρ S E => by
  simp only [eJs, h ρ S E, R.noX, R.bind, fsT, Option.bind_some]
  split
  · exact hr _ ρ S E
  · rfl
theorem pfs_fi {f : Ex} {fs : List Ex} {i : Int} {ps : List (Option Str)} (h : PE1 f A (.int i)) (hr : PFs A fs ps) : PFs A (eFmt f :: fs) (showT i :: ps) := fun acc ρ S E => by
  simp only [eJs, eFmt, h ρ S E, R.noX, R.bind, fsT, showT]
  by_cases c : i.natAbs.log2 < 1920
  · simp only [c, if_true, Option.bind_some]
    split
    · exact hr _ ρ S E
    · rfl
  · simp only [c, if_false, Option.bind_none]; rfl
theorem ce_js {fs : List Ex} {ps : List (Option Str)} {κ : RV → AS → Q β → Prop} (h : PFs A fs ps) (hf : Fin ((fsT ps Str.empty).map .str) A t κ) : CE (eJs fs Str.empty) A t κ Γ := fun ρ S k E hc => by
  rw [h Str.empty ρ S E]
  exact ref_ofO E hf hc
end
end DL
namespace DL
open PySem PySem.Spec L2
noncomputable def wgetO (tab : List (Str × Int)) (x : Str) : Option Int := (tab.find? fun q => q.1 == x).map (·.2)
section
variable {β : Type} {Γ : Gx β} {A : AS} {t : Q β}
theorem ce_wgetO {e : Ex} {tab : List (Str × Int)} {κ : RV → AS → Q β → Prop} (h : CE e A t (fun rv B t' => ∃ (x : Str), rv = .dat (eS x) ∧ κ (.dat ((eO eI) (wgetO tab x))) B t') Γ) : CE (eWGetO tab e) A t κ Γ := fun ρ S k E hc => by
  simp only [eWGetO, bind_st]
  refine h ρ S _ E fun rv v B S' t' h1 E1 q1 => ?_
  obtain ⟨x, rfl, hk⟩ := h1
  cases q1
  simp only [eS]
  unfold wgetO at hk
  cases hf : tab.find? fun q => q.1 == x with
  | none =>
    rw [hf] at hk
    exact hc _ _ _ _ _ hk E1 rfl
  | some q =>
    rw [hf] at hk
    exact hc _ _ _ _ _ hk E1 rfl
end
end DL
namespace DL
open PySem L2
section
variable {α σ γ ρ : Type}
theorem foldQ_pre {f : α → σ → Q σ} (I : List α → σ → Prop) : ∀ {xs : List α} {s : σ} (done : List α), (∀ d x r s, done ++ xs = d ++ x :: r → I d s → ∃ s', f x s = .ok s' ∧ I (d ++ [x]) s') → I done s → ∃ s', foldQ xs s f = .ok s' ∧ I (done ++ xs) s'
  | [], s, done, _, h0 => ⟨s, rfl, by simpa using h0⟩
  | x :: xs, s, done, h, h0 => by
    obtain ⟨s1, e1, h1⟩ := h done x xs s rfl h0
    obtain ⟨s2, e2, h2⟩ := foldQ_pre I (xs := xs) (done ++ [x]) (fun d y r s e => h d y r s (by simpa using e)) h1
    exact ⟨s2, by rw [foldQ, e1, Q.ok_bind, e2], by simpa using h2⟩
theorem foldQ_num {f : α → σ → Q σ} (I : Nat → σ → Prop) {xs : List α} {s : σ} (h : ∀ x ∈ xs, ∀ n s, n < xs.length → I n s → ∃ s', f x s = .ok s' ∧ I (n + 1) s') (h0 : I 0 s) : ∃ s', foldQ xs s f = .ok s' ∧ I xs.length s' := by
  obtain ⟨s', e, h'⟩ := foldQ_pre (fun d s => I d.length s) (xs := xs) (s := s) [] (fun d x r s e hi => by
    have e : xs = d ++ x :: r := by simpa using e
    obtain ⟨s', e1, e2⟩ := h x (by rw [e]; simp) d.length s (by rw [e]; simp) hi
    exact ⟨s', e1, by simpa using e2⟩) h0
  exact ⟨s', e, by simpa using h'⟩
theorem forQ_inv {f : α → σ → Q (LF σ ρ)} (I : σ → Prop) : ∀ {xs : List α} {s : σ}, (∀ x ∈ xs, ∀ s, I s → ∃ s', f x s = .ok (.nx s') ∧ I s') → I s → ∃ s', forQ xs s f = .ok (.nx s') ∧ I s'
  | [], s, _, h0 => ⟨s, rfl, h0⟩
  | x :: xs, s, h, h0 => by
    obtain ⟨s1, e1, h1⟩ := h x List.mem_cons_self s h0
    obtain ⟨s2, e2, h2⟩ := forQ_inv I (fun y hy => h y (List.mem_cons_of_mem _ hy)) h1
    exact ⟨s2, by rw [forQ, e1, Q.ok_bind]; exact e2, h2⟩
theorem forQ_all {f : α → Unit → Q (LF Unit ρ)} {xs : List α} (h : ∀ x ∈ xs, f x () = .ok (.nx ())) : forQ xs () f = .ok (.nx ()) := by
  obtain ⟨s', e, _⟩ := forQ_inv (f := f) (fun _ => True) (xs := xs) (s := ()) (fun x hx s _ => ⟨(), h x hx, trivial⟩) trivial
  exact e
theorem compQ_inv {f : α → σ → Q (Option γ × σ)} (I : σ → Prop) (P : α → γ → Prop) : ∀ {xs : List α} {s : σ}, (∀ x ∈ xs, ∀ s, I s → ∃ y s', f x s = .ok (some y, s') ∧ I s' ∧ P x y) → I s → ∃ ys s', compQ xs s f = .ok (ys, s') ∧ I s' ∧ ys.length = xs.length ∧ ∀ (i : Nat) (x : α) (y : γ), xs[i]? = some x → ys[i]? = some y → P x y
  | [], s, _, h0 => ⟨[], s, rfl, h0, rfl, fun i x y h => by simp at h⟩
  | x :: xs, s, h, h0 => by
    obtain ⟨y, s1, e1, h1, p1⟩ := h x List.mem_cons_self s h0
    obtain ⟨ys, s2, e2, h2, l2, p2⟩ := compQ_inv I P (fun z hz => h z (List.mem_cons_of_mem _ hz)) h1
    refine ⟨y :: ys, s2, by rw [compQ, e1, Q.ok_noX, Q.ok_bind, e2]; rfl, h2, by simp [l2], fun i a b ha hb => ?_⟩
    cases i with
    | zero => simp at ha hb; subst ha hb; exact p1
    | succ i => simp at ha hb; exact p2 i a b ha hb
theorem compQ_fun {f : α → Unit → Q (Option γ × Unit)} (g : α → γ) : ∀ {xs : List α}, (∀ x ∈ xs, f x () = .ok (some (g x), ())) → compQ xs () f = .ok (xs.map g, ())
  | [], _ => rfl
  | x :: xs, h => by rw [compQ, h x List.mem_cons_self, Q.ok_noX, Q.ok_bind, compQ_fun g fun y hy => h y (List.mem_cons_of_mem _ hy)]; rfl
end
theorem while_t {σ : Type} {c : σ → Q Bool} {f : σ → Q σ} {n : Nat} {s s' : σ} (hc : c s = .ok true) (hf : f s = .ok s') : whileS c f (n + 1) s = whileS c f n s' := by
  rw [whileS, hc, Q.ok_bind, if_pos rfl, hf, Q.ok_bind]
theorem while_f {σ : Type} {c : σ → Q Bool} {f : σ → Q σ} {n : Nat} {s : σ} (hc : c s = .ok false) : whileS c f (n + 1) s = .ok s := by
  rw [whileS, hc, Q.ok_bind]; rfl
noncomputable def Q.Post {α : Type} (q : Q α) (P : α → Prop) : Prop := ∃ a, q = .ok a ∧ P a
section
variable {α β σ γ ρ : Type}
theorem Q.Post.ok {a : α} {P : α → Prop} (h : P a) : (Q.ok a).Post P := ⟨a, rfl, h⟩
theorem Q.Post.bind {q : Q α} {k : α → Q β} {R : α → Prop} {P : β → Prop} (h : q.Post R) (hk : ∀ a, R a → (k a).Post P) : (q.bind k).Post P := by
  obtain ⟨a, rfl, ha⟩ := h; exact hk a ha
theorem Q.Post.noX {q : Q α} {P : α → Prop} (h : q.Post P) : q.noX.Post P := by
  obtain ⟨a, rfl, ha⟩ := h; exact ⟨a, rfl, ha⟩
theorem Q.Post.ex {q : Q α} {P : α → Prop} {f : List TO → List TO} (h : q.Post P) : (q.ex f).Post P := by
  obtain ⟨a, rfl, ha⟩ := h; exact ⟨a, rfl, ha⟩
theorem Q.Post.of {o : Option α} {a : α} {P : α → Prop} (h : o = some a) (hp : P a) : (Q.of o).Post P := by subst h; exact ⟨a, rfl, hp⟩
theorem Q.Post.imp {q : Q α} {P R : α → Prop} (h : q.Post P) (hi : ∀ a, P a → R a) : q.Post R := by
  obtain ⟨a, e, ha⟩ := h; exact ⟨a, e, hi a ha⟩
theorem Q.Post.ite {c : Prop} [Decidable c] {p q : Q α} {P : α → Prop} (h1 : c → p.Post P) (h2 : ¬ c → q.Post P) : (if c then p else q).Post P := by
  split
  · exact h1 ‹_›
  · exact h2 ‹_›
theorem Q.Post.lf {q : Q (LF σ ρ)} {k : σ → Q β} {kr : ρ → Q β} {R : LF σ ρ → Prop} {P : β → Prop} (h : q.Post R) (hk : ∀ s, (R (.nx s) ∨ R (.bk s)) → (k s).Post P) (hr : ∀ r, R (.rt r) → (kr r).Post P) : (q.lf k kr).Post P := by
  obtain ⟨a, rfl, ha⟩ := h
  cases a with
  | nx s => exact hk s (.inl ha)
  | bk s => exact hk s (.inr ha)
  | rt r => exact hr r ha
theorem foldQ_post {xs : List α} {s : σ} {f : α → σ → Q σ} {k : σ → Q β} {P : β → Prop} (I : Nat → σ → Prop) (h0 : I 0 s) (h : ∀ x ∈ xs, ∀ n s, n < xs.length → I n s → (f x s).Post (I (n + 1))) (hk : ∀ s, I xs.length s → (k s).Post P) : ((foldQ xs s f).bind k).Post P := by
  obtain ⟨s', e, i⟩ := foldQ_num I h h0
  rw [e]; exact hk s' i
theorem compQ_post {xs : List α} {s : σ} {f : α → σ → Q (Option γ × σ)} {k : List γ × σ → Q β} {P : β → Prop} (I : σ → Prop) (R : α → γ → Prop) (h0 : I s) (h : ∀ x ∈ xs, ∀ s, I s → (f x s).Post fun p => ∃ y, p.1 = some y ∧ I p.2 ∧ R x y) (hk : ∀ ys s', I s' → ys.length = xs.length → (∀ (i : Nat) (x : α) (y : γ), xs[i]? = some x → ys[i]? = some y → R x y) → (k (ys, s')).Post P) : ((compQ xs s f).bind k).Post P := by
  obtain ⟨ys, s', e, h1, h2, h3⟩ := compQ_inv I R (xs := xs) (s := s) (fun x hx s hs => by
    obtain ⟨⟨o, s'⟩, e, y, ho, h1, h2⟩ := h x hx s hs
    simp only at ho h1
    subst ho
    exact ⟨y, s', e, h1, h2⟩) h0
  rw [e]; exact hk ys s' h1 h2 h3
theorem forQ_post {xs : List α} {s : σ} {f : α → σ → Q (LF σ ρ)} {k : σ → Q β} {kr : ρ → Q β} {P : β → Prop} (I : σ → Prop) (h0 : I s) (h : ∀ x ∈ xs, ∀ s, I s → (f x s).Post fun l => ∃ s', l = .nx s' ∧ I s') (hk : ∀ s, I s → (k s).Post P) : ((forQ xs s f).lf k kr).Post P := by
  obtain ⟨s', e, i⟩ := forQ_inv I (xs := xs) (s := s) (fun x hx s hs => by
    obtain ⟨l, e, s', rfl, hi⟩ := h x hx s hs
    exact ⟨s', e, hi⟩) h0
  rw [e]; exact hk s' i
end
theorem rgT_ok {i j : Int} (h0 : -1000000 ≤ i) (h1 : i ≤ 1000000) (h2 : j ≤ 1000000) (h3 : -1000000 ≤ j) (h4 : j - i ≤ 1000000) : rgT i j = some (irange i j) := by
  unfold rgT; rw [if_pos (by omega)]
theorem rgT0 {j : Int} (h2 : j ≤ 1000000) (h3 : -1000000 ≤ j) : rgT 0 j = some (irange 0 j) := rgT_ok (by omega) (by omega) h2 h3 (by omega)
theorem mem_irange {i j x : Int} : x ∈ irange i j ↔ i ≤ x ∧ x < j := by
  unfold irange
  simp only [List.mem_map, List.mem_range]
  constructor
  · rintro ⟨k, hk, rfl⟩; omega
  · intro ⟨h1, h2⟩; exact ⟨(x - i).toNat, by omega, by omega⟩
theorem irange_len (i j : Int) : (irange i j).length = (j - i).toNat := by simp [irange]
theorem atI_ok {α : Type} {xs : List α} {i : Int} (h : 0 ≤ i) (h2 : i < xs.length) : atI xs i = some (xs[i.toNat]'(by omega)) := by
  unfold atI ixN
  rw [if_pos h, if_pos h2]
  simp only [Option.bind]
  rw [List.getElem?_eq_getElem]
theorem atI_get {α : Type} {xs : List α} {i : Int} (h : 0 ≤ i) : atI xs i = xs[i.toNat]? := by
  unfold atI ixN
  rw [if_pos h]
  by_cases h2 : i < xs.length
  · rw [if_pos h2]; rfl
  · rw [if_neg h2, List.getElem?_eq_none (by omega)]; rfl
theorem setT_ok {α : Type} {xs : List α} {i : Int} {x : α} (h : 0 ≤ i) (h2 : i < xs.length) : setT xs i x = some (xs.set i.toNat x) := by
  unfold setT ixN
  rw [if_pos h, if_pos h2]; rfl
theorem roomT_ok {n : Nat} (h : n < 16777216) : roomT n = some () := by
  unfold roomT; rw [if_pos (by unfold sizeLine; omega)]
theorem catT_ok {α : Type} {xs ys : List α} (h : xs.length + ys.length ≤ 16777216) : catT xs ys = some (xs ++ ys) := by
  unfold catT; rw [if_pos (by unfold sizeLine; omega)]
theorem sIx_pos {n d : Nat} {k : Int} (h : 0 ≤ k) : HT.sIx n d (some k) = min k.toNat n := by
  show (if k < 0 then (k + (n : Int)).toNat else min k.toNat n) = _
  rw [if_neg (by omega)]
theorem cut_hi {α : Type} {xs : List α} {k : Int} (h : 0 ≤ k) : cutD xs none (some k) = xs.take k.toNat := by
  unfold cutD
  rw [sIx_pos h, HT.sIx_none]
  simp only [List.drop_zero, Nat.sub_zero]
  by_cases hk : k.toNat ≤ xs.length
  · rw [Nat.min_eq_left hk]
  · rw [Nat.min_eq_right (by omega), List.take_length, List.take_of_length_le (by omega)]
theorem cut_lo {α : Type} {xs : List α} {k : Int} (h : 0 ≤ k) : cutD xs (some k) none = xs.drop k.toNat := by
  unfold cutD
  rw [sIx_pos h, HT.sIx_none]
  by_cases hk : k.toNat ≤ xs.length
  · rw [Nat.min_eq_left hk, List.take_of_length_le (by simp)]
  · rw [Nat.min_eq_right (by omega)]; simp; omega
end DL
namespace Law
open PySem L2 DL
noncomputable abbrev Sp := Int × Int × Int × Int
noncomputable abbrev Bd := Int × Int × Int
noncomputable abbrev Bk := Int × Int × List Sp × List Bd
noncomputable abbrev eSp : Sp → D := eT4 eI eI eI eI
noncomputable abbrev eBd : Bd → D := eT3 eI eI eI
noncomputable abbrev eBk : Bk → D := eT4 eI eI (eV eSp) (eV eBd)
structure SpOk (e n : Int) (s : Sp) : Prop where
  a0 : 0 ≤ s.1
  a1 : s.1 ≤ n - 1
  g0 : 1 ≤ s.2.1
  g1 : s.2.1 ≤ n - 1
  ne : s.1 ≠ s.2.1
  l0 : 1 ≤ s.2.2.1
  lm : s.2.2.1 ≤ s.2.2.2
  me : s.2.2.2 ≤ e
structure BdOk (n : Int) (b : Bd) : Prop where
  a0 : 0 ≤ b.1
  a1 : b.1 ≤ n - 1
  b0 : 0 ≤ b.2.1
  b1 : b.2.1 ≤ n - 1
  ne : b.1 ≠ b.2.1
  w0 : -60 ≤ b.2.2
  w1 : b.2.2 ≤ 60
noncomputable def fnd : List Sp → Nat → Int → Option (Nat × Sp)
  | [], _, _ => none
  | s :: r, k, m => if s.2.1 = m then some (k, s) else fnd r (k + 1) m
noncomputable def way (sps : List Sp) : Nat → Int → List Nat
  | 0, _ => []
  | n + 1, m => match fnd sps 0 m with
    | none => []
    | some (i, s) => i :: way sps n s.1
noncomputable def rootM (sps : List Sp) : Nat → Int → Option Int
  | 0, _ => none
  | n + 1, m => match fnd sps 0 m with
    | none => some m
    | some (_, s) => rootM sps n s.1
theorem fnd_at : ∀ (sps : List Sp) (k i : Nat) (m : Int) (s : Sp), fnd sps k m = some (i, s) → k ≤ i ∧ sps[i - k]? = some s ∧ s.2.1 = m
  | [], k, i, m, s, h => by simp [fnd] at h
  | x :: r, k, i, m, s, h => by
    unfold fnd at h
    split at h
    · cases h; exact ⟨Nat.le_refl _, by simp, by assumption⟩
    · obtain ⟨h1, h2, h3⟩ := fnd_at r (k + 1) i m s h
      refine ⟨by omega, ?_, h3⟩
      rw [show i - k = (i - (k + 1)) + 1 by omega, List.getElem?_cons_succ]; exact h2
theorem fnd_none : ∀ (sps : List Sp) (k : Nat) (m : Int), fnd sps k m = none ↔ m ∉ sps.map (·.2.1)
  | [], k, m => by simp [fnd]
  | s :: r, k, m => by
    unfold fnd
    by_cases z : s.2.1 = m
    · simp [z]
    · have := fnd_none r (k + 1) m
      have z' : ¬ m = s.2.1 := fun e => z e.symm
      simp only [if_neg z, this, List.map_cons, List.mem_cons, z', false_or]
noncomputable def Acyc (sps : List Sp) : Prop := ∀ m, ∃ k x, rootM sps k m = some x
section
variable {sps : List Sp}
theorem root_same : ∀ (k k' : Nat) (m x x' : Int), rootM sps k m = some x → rootM sps k' m = some x' → way sps k m = way sps k' m ∧ x = x'
  | 0, _, _, _, _, h, _ => by simp [rootM] at h
  | k + 1, 0, _, _, _, _, h => by simp [rootM] at h
  | k + 1, k' + 1, m, x, x', h, h' => by
    unfold rootM at h h'
    cases z : fnd sps 0 m with
    | none => simp only [z, Option.some.injEq] at h h'; simp [way, z, ← h, ← h']
    | some p =>
      simp only [z] at h h'
      obtain ⟨h1, h2⟩ := root_same k k' _ x x' h h'
      simp only [way, z, h1, h2, and_self]
theorem root_at : ∀ (k k' : Nat) (m x : Int), rootM sps k m = some x → (way sps k m).length < k' → rootM sps k' m = some x
  | 0, _, _, _, h, _ => by simp [rootM] at h
  | k + 1, 0, _, _, _, h => by omega
  | k + 1, k' + 1, m, x, h, hl => by
    unfold rootM at h ⊢
    cases z : fnd sps 0 m with
    | none => simp only [z] at h ⊢; exact h
    | some p =>
      simp only [z] at h ⊢
      simp only [way, z, List.length_cons] at hl
      exact root_at k k' _ x h (by omega)
theorem way_mem : ∀ (k : Nat) (m x : Int) (i : Nat), rootM sps k m = some x → i ∈ way sps k m → ∃ k' m' s, fnd sps 0 m' = some (i, s) ∧ rootM sps k' m' = some x ∧ (way sps k' m').length ≤ (way sps k m).length
  | 0, _, _, _, h, _ => by simp [rootM] at h
  | k + 1, m, x, i, h, hi => by
    have h0 := h
    unfold rootM at h
    cases z : fnd sps 0 m with
    | none => simp [way, z] at hi
    | some p =>
      obtain ⟨j, s⟩ := p
      simp only [z] at h
      have e : way sps (k + 1) m = j :: way sps k s.1 := by simp only [way, z]
      rw [e] at hi ⊢
      rcases List.mem_cons.mp hi with rfl | hi
      · exact ⟨k + 1, m, s, z, h0, by rw [e]; exact Nat.le_refl _⟩
      · obtain ⟨k', m', s', h1, h2, h3⟩ := way_mem k _ x i h hi
        exact ⟨k', m', s', h1, h2, by rw [List.length_cons]; omega⟩
theorem way_nodup : ∀ (k : Nat) (m x : Int), rootM sps k m = some x → (way sps k m).Nodup ∧ ∀ i ∈ way sps k m, i < sps.length
  | 0, _, _, h => by simp [rootM] at h
  | k + 1, m, x, h => by
    have h0 := h
    unfold rootM at h
    cases z : fnd sps 0 m with
    | none => simp [way, z]
    | some p =>
      obtain ⟨j, s⟩ := p
      simp only [z] at h
      have e : way sps (k + 1) m = j :: way sps k s.1 := by simp only [way, z]
      obtain ⟨n1, n2⟩ := way_nodup k _ x h
      obtain ⟨_, g1, g2⟩ := fnd_at sps 0 j m s z
      rw [e]
      refine ⟨List.nodup_cons.mpr ⟨fun hj => ?_, n1⟩, fun i hi => ?_⟩
      · obtain ⟨k', m', s', h1, h2, h3⟩ := way_mem k _ x j h hj
        obtain ⟨_, g3, g4⟩ := fnd_at sps 0 j m' s' h1
        rw [g1] at g3
        cases g3
        have em : m' = m := g4.symm.trans g2
        subst em
        have := (root_same _ _ _ _ _ h0 h2).1
        rw [← this, e, List.length_cons] at h3
        omega
      · rcases List.mem_cons.mp hi with rfl | hi
        · have := (List.getElem?_eq_some_iff.mp g1).1; omega
        · exact n2 i hi
theorem short_of : ∀ (n : Nat) (l : List Nat), l.Nodup → (∀ i ∈ l, i < n) → l.length ≤ n
  | 0, l, _, h => by
    cases l with
    | nil => simp
    | cons a r => exact absurd (h a List.mem_cons_self) (by omega)
  | n + 1, l, hn, h => by
    by_cases z : n ∈ l
    · have h1 := short_of n (l.erase n) (hn.erase n) fun i hi => by
        have h2 := (List.Nodup.mem_erase_iff hn).mp hi
        have := h i h2.2
        omega
      rw [List.length_erase_of_mem z] at h1
      omega
    · have := short_of n l hn fun i hi => by
        have := h i hi
        have : i ≠ n := fun e => z (e ▸ hi)
        omega
      omega
theorem acyc_root (h : Acyc sps) (m : Int) : (rootM sps (sps.length + 1) m).isSome = true := by
  obtain ⟨k, x, hk⟩ := h m
  obtain ⟨h1, h2⟩ := way_nodup k m x hk
  rw [root_at k (sps.length + 1) m x hk (by have := short_of _ _ h1 h2; omega)]; rfl
theorem way_le : ∀ (n : Nat) (m : Int), (rootM sps n m).isSome = true ↔ (way sps n m).length < n
  | 0, m => by simp [rootM, way]
  | n + 1, m => by
    unfold rootM way
    cases z : fnd sps 0 m with
    | none => simp
    | some p => simp only [List.length_cons]; rw [way_le n]; omega
theorem fnd_app : ∀ (sps : List Sp) (s : Sp) (k : Nat) (m : Int), fnd (sps ++ [s]) k m = match fnd sps k m with | some p => some p | none => if s.2.1 = m then some (k + sps.length, s) else none
  | [], s, k, m => by simp [fnd]
  | x :: r, s, k, m => by
    have ih := fnd_app r s (k + 1) m
    by_cases z : x.2.1 = m
    · simp [fnd, z]
    · simp only [List.cons_append, fnd, if_neg z, ih, List.length_cons, show k + 1 + r.length = k + (r.length + 1) by omega]
theorem add_keep (s : Sp) : ∀ (k : Nat) (m y : Int), rootM sps k m = some y → y ≠ s.2.1 → rootM (sps ++ [s]) k m = some y
  | 0, _, _, h, _ => by simp [rootM] at h
  | k + 1, m, y, h, hy => by
    unfold rootM at h ⊢
    rw [fnd_app]
    cases z : fnd sps 0 m with
    | none =>
      simp only [z] at h ⊢
      cases h
      rw [if_neg (fun e => hy e.symm)]
    | some p =>
      simp only [z] at h ⊢
      exact add_keep s k _ y h hy
theorem add_move (s : Sp) {x : Int} {K : Nat} (hx : rootM (sps ++ [s]) K s.1 = some x) : ∀ (k : Nat) (m : Int), rootM sps k m = some s.2.1 → ∃ k', rootM (sps ++ [s]) k' m = some x
  | 0, _, h => by simp [rootM] at h
  | k + 1, m, h => by
    unfold rootM at h
    cases z : fnd sps 0 m with
    | none =>
      simp only [z] at h
      cases h
      refine ⟨K + 1, ?_⟩
      unfold rootM
      rw [fnd_app, z]
      simp only [if_true]
      exact hx
    | some p =>
      simp only [z] at h
      obtain ⟨k', h'⟩ := add_move s hx k _ h
      refine ⟨k' + 1, ?_⟩
      unfold rootM
      rw [fnd_app, z]
      exact h'
theorem acyc_add {s : Sp} {K : Nat} {x : Int} (h : Acyc sps) (ha : rootM sps K s.1 = some x) (hx : x ≠ s.2.1) : Acyc (sps ++ [s]) := fun m => by
  obtain ⟨k, y, hk⟩ := h m
  by_cases z : y = s.2.1
  · subst z
    obtain ⟨k', h'⟩ := add_move s (add_keep s K s.1 x ha hx) k m hk
    exact ⟨k', x, h'⟩
  · exact ⟨k, y, add_keep s k m y hk z⟩
theorem acyc_nil : Acyc [] := fun m => ⟨1, m, rfl⟩
end
structure BkOk (b : Bk) : Prop where
  e0 : 1 ≤ b.1
  e1 : b.1 ≤ 60
  n0 : 1 ≤ b.2.1
  n1 : b.2.1 ≤ 10
  sl : b.2.2.1.length ≤ 4
  so : ∀ s ∈ b.2.2.1, SpOk b.1 b.2.1 s
  nd : (b.2.2.1.map (·.2.1)).Nodup
  ac : Acyc b.2.2.1
  bl : b.2.2.2.length ≤ 30
  bo : ∀ s ∈ b.2.2.2, BdOk b.2.1 s
end Law
namespace Law
open PySem L2 DL
noncomputable abbrev Arc := Int × Int × Int
noncomputable def hv (hs : List Int) (v : Int) : Int := hs.getD v.toNat 0
noncomputable def up (hs : List Int) (a : Arc) : List Int := if hv hs a.1 < hv hs a.2.1 - a.2.2 then hs.set a.1.toNat (hv hs a.2.1 - a.2.2) else hs
noncomputable def InR (n : Nat) (a : Arc) : Prop := 0 ≤ a.1 ∧ a.1 < n ∧ 0 ≤ a.2.1 ∧ a.2.1 < n
noncomputable def Holds (g : Int → Int) (a : Arc) : Prop := g a.2.1 ≤ g a.1 + a.2.2
section
variable {n : Nat}
noncomputable def Below (n : Nat) (hs : List Int) (g : Int → Int) : Prop := ∀ v : Int, 0 ≤ v → v < n → hv hs v ≤ g v
noncomputable def Asks (hs : List Int) (a : Arc) : Prop := hv hs a.1 < hv hs a.2.1 - a.2.2
theorem holds_of {hs : List Int} {a : Arc} (h : ¬ Asks hs a) : Holds (hv hs) a := by unfold Asks at h; unfold Holds; omega
structure Least (n : Nat) (arcs : List Arc) (g : Int → Int) : Prop where
  pos : ∀ v : Int, 0 ≤ v → v < n → 0 ≤ g v
  ok : ∀ a ∈ arcs, Holds g a
  le : ∀ f : Int → Int, (∀ v : Int, 0 ≤ v → v < n → 0 ≤ f v) → (∀ a ∈ arcs, Holds f a) → ∀ v : Int, 0 ≤ v → v < n → g v ≤ f v
noncomputable def done (n : Nat) (hs : List Int) (g : Int → Int) : Nat := ((irange 0 n).filter fun v => decide (hv hs v = g v)).length
structure Run (n : Nat) (arcs : List Arc) (hs : List Int) : Prop where
  len : hs.length = n
  pos : ∀ v : Int, 0 ≤ v → v < n → 0 ≤ hv hs v
  below : ∀ f : Int → Int, (∀ v : Int, 0 ≤ v → v < n → 0 ≤ f v) → (∀ a ∈ arcs, Holds f a) → Below n hs f
theorem Run.zero (n : Nat) (arcs : List Arc) : Run n arcs (List.replicate n 0) := by
  have z : ∀ v : Int, hv (List.replicate n 0) v = 0 := fun v => by
    unfold hv
    rw [List.getD_eq_getElem?_getD, List.getElem?_replicate]; split <;> rfl
  exact ⟨by simp, fun v _ _ => by rw [z]; exact Int.le_refl _, fun f hf _ v v0 v1 => by rw [z]; exact hf v v0 v1⟩
theorem Run.least {arcs : List Arc} {hs : List Int} (h : Run n arcs hs) (hno : ∀ a ∈ arcs, ¬ Asks hs a) : Least n arcs (hv hs) :=
  ⟨h.pos, fun a ha => holds_of (hno a ha), fun f hf ho => h.below f hf ho⟩
end
end Law
namespace Law
open PySem L2 DL
variable {β : Type}
noncomputable abbrev ArcB (β : Type) := Int × Int × Int × β
noncomputable def ar (x : ArcB β) : Arc := (x.1, x.2.1, x.2.2.1)
structure WI (n : Nat) (arcs : List (ArcB β)) (now : Nat) (t : Int → Int) (hs : List Int) (ws : List (Option Int)) : Prop where
  lh : hs.length = n
  lw : ws.length = n
  tl : ∀ v, t v < now
  fresh : ∀ (k i : Nat) x, arcs[i]? = some x → k * arcs.length + i < now → t x.2.1 < (k * arcs.length + i : Nat) → ¬ Asks hs (ar x)
  way : ∀ v : Int, 0 ≤ v → v < n → 0 ≤ t v → ∃ (i : Nat) (x : ArcB β), ws[v.toNat]? = some (some (i : Int)) ∧ arcs[i]? = some x ∧ x.1 = v ∧ hv hs v + x.2.2.1 ≤ hv hs x.2.1 ∧ (hv hs v + x.2.2.1 < hv hs x.2.1 ∨ t x.2.1 < t v) ∧ ((arcs.length : Int) ≤ t v → t v - arcs.length ≤ t x.2.1)
theorem WI.zero (n : Nat) (arcs : List (ArcB β)) : WI n arcs 0 (fun _ => -1) (List.replicate n 0) (List.replicate n none) :=
  ⟨by simp, by simp, fun v => by simp, fun k i x _ h => absurd h (Nat.not_lt_zero _), fun v _ _ h => by simp at h⟩
section
variable {n : Nat} {arcs : List (ArcB β)} {now p j : Nat} {t : Int → Int} {hs : List Int} {ws : List (Option Int)} {x : ArcB β}
end
noncomputable def rs (s : List Int × List (Option Int) × Option Int) (x : Int × ArcB β) : List Int × List (Option Int) × Option Int :=
  if hv s.1 x.2.1 < hv s.1 x.2.2.1 - x.2.2.2.1 then (s.1.set x.2.1.toNat (hv s.1 x.2.2.1 - x.2.2.2.1), s.2.1.set x.2.1.toNat (some x.1), some x.2.1) else s
structure PI (n : Nat) (arcs : List (ArcB β)) (p j : Nat) (hs0 : List Int) (s : List Int × List (Option Int) × Option Int) : Prop where
  wi : ∃ t, WI n arcs (p * arcs.length + j) t s.1 s.2.1 ∧ ∀ v, s.2.2 = some v → 0 ≤ v ∧ v < n ∧ ((p * arcs.length : Nat) : Int) ≤ t v
  same : s.2.2 = none → s.1 = hs0 ∧ ∀ i x, i < j → arcs[i]? = some x → ¬ Asks hs0 (ar x)
  none_ : (∀ x ∈ arcs, ¬ Asks hs0 (ar x)) → s.2.2 = none
noncomputable def wayAt (arcs : List (ArcB β)) (ws : List (Option Int)) (v : Int) : Option (ArcB β) := (ws[v.toNat]?).join.bind fun i => arcs[i.toNat]?
noncomputable def nxt (arcs : List (ArcB β)) (ws : List (Option Int)) (v : Int) : Int := ((wayAt arcs ws v).map fun x => x.2.1).getD 0
noncomputable def goN (f : Int → Int) : Nat → Int → Int
  | 0, v => v
  | k + 1, v => goN f k (f v)
theorem goN_add (f : Int → Int) : ∀ (a b : Nat) (v : Int), goN f (a + b) v = goN f b (goN f a v)
  | 0, b, v => by rw [Nat.zero_add]; rfl
  | a + 1, b, v => by rw [show a + 1 + b = (a + b) + 1 by omega]; exact goN_add f a b (f v)
theorem goN_succ (f : Int → Int) (k : Nat) (v : Int) : goN f (k + 1) v = f (goN f k v) := goN_add f k 1 v
structure Good (n : Nat) (arcs : List (ArcB β)) (ws : List (Option Int)) (hs : List Int) (t : Int → Int) (v : Int) : Prop where
  r0 : 0 ≤ v
  r1 : v < n
  at_ : ∃ (i : Nat) (x : ArcB β), ws[v.toNat]? = some (some (i : Int)) ∧ arcs[i]? = some x ∧ wayAt arcs ws v = some x ∧ nxt arcs ws v = x.2.1 ∧ x.1 = v ∧ hv hs v + x.2.2.1 ≤ hv hs x.2.1 ∧ (hv hs v + x.2.2.1 < hv hs x.2.1 ∨ t x.2.1 < t v)
section
variable {n : Nat} {arcs : List (ArcB β)} {now : Nat} {t : Int → Int} {hs : List Int} {ws : List (Option Int)}
theorem WI.next (h : WI n arcs now t hs ws) (hra : ∀ y ∈ arcs, InR n (ar y)) {v : Int} (v0 : 0 ≤ v) (v1 : v < n) (ht : 0 ≤ t v) : 0 ≤ nxt arcs ws v ∧ nxt arcs ws v < n ∧ ((arcs.length : Int) ≤ t v → t v - arcs.length ≤ t (nxt arcs ws v)) := by
  obtain ⟨i, x, h1, h2, h3, h4, h5, h6⟩ := h.way v v0 v1 ht
  have e : wayAt arcs ws v = some x := by unfold wayAt; rw [h1]; simpa using h2
  have e2 : nxt arcs ws v = x.2.1 := by unfold nxt; rw [e]; rfl
  have := hra x (List.mem_of_getElem? h2)
  rw [e2]
  exact ⟨this.2.2.1, this.2.2.2, h6⟩
theorem WI.back (h : WI n arcs now t hs ws) (hra : ∀ y ∈ arcs, InR n (ar y)) {v : Int} (v0 : 0 ≤ v) (v1 : v < n) : ∀ (m k : Nat), ((m * arcs.length : Nat) : Int) ≤ t v → k ≤ m → 0 ≤ goN (nxt arcs ws) k v ∧ goN (nxt arcs ws) k v < n ∧ (((m - k) * arcs.length : Nat) : Int) ≤ t (goN (nxt arcs ws) k v)
  | m, 0, ht, _ => ⟨v0, v1, ht⟩
  | m, k + 1, ht, hk => by
    obtain ⟨a, b, c⟩ := WI.back h hra v0 v1 m k ht (by omega)
    have e : (m - k) * arcs.length = (m - (k + 1)) * arcs.length + arcs.length := by
      rw [show m - k = (m - (k + 1)) + 1 by omega]; exact Nat.succ_mul _ _
    obtain ⟨a', b', c'⟩ := h.next hra a b (by omega)
    rw [goN_succ]
    refine ⟨a', b', ?_⟩
    have := c' (by omega)
    omega
end
section
variable {n : Nat} {arcs : List (ArcB β)} {t : Int → Int} {hs : List Int} {ws : List (Option Int)}
end
theorem Least.zero {n : Nat} {arcs : List Arc} {g : Int → Int} (h : Least n arcs g) (hn : 0 < n) (hr : ∀ a ∈ arcs, InR n a) (h0 : ∀ v : Int, 0 ≤ v → v < n → g 0 ≤ g v) : g 0 = 0 := by
  have a := h.pos 0 (Int.le_refl _) (by omega)
  have b := h.le (fun v => g v - g 0) (fun v v0 v1 => by have := h0 v v0 v1; show 0 ≤ g v - g 0; omega) (fun x hx => by
    have := h.ok x hx
    unfold Holds at this ⊢
    show g x.2.1 - g 0 ≤ g x.1 - g 0 + x.2.2
    omega) 0 (Int.le_refl _) (by omega)
  replace b : g 0 ≤ g 0 - g 0 := b
  omega
end Law
namespace Law
open PySem DL
noncomputable def b_is_whole : Blk := (sRet (eAnd (eIsi "int" (eVar 0)) (eNot (eIsi "bool" (eVar 0)))))
noncomputable def F_is_whole : Fn := mkFn 0 b_is_whole
noncomputable def b_is_within : Blk := (sRet (eAnd (eCall 1 F_is_whole (aCons (eVar 0) aNil)) (eChain leD leD (eVar 1) (eVar 0) (eVar 2))))
noncomputable def F_is_within : Fn := mkFn 0 b_is_within
noncomputable def b_is_span : Blk := (sSeq (sIf (tOrE (tNotE (tTru (eIsi "tuple" (eVar 0)))) (tOf (eBin neD (eCB lenD (aCons (eVar 0) aNil)) (eC (.int 4))))) (sRet (eC (.bool false))) sNil) (sSeq (sAsg (eVar 0) (gTp 4 (gsCons (gNm 3) (gsCons (gNm 4) (gsCons (gNm 5) (gsCons (gNm 6) gsNil)))))) (sSeq (sIf (tOrE (tNotE (tTru (eCall 3 F_is_within (aCons (eVar 3) (aCons (eC (.int 0)) (aCons (eBin subD (eVar 2) (eC (.int 1))) aNil)))))) (tOrE (tNotE (tTru (eCall 3 F_is_within (aCons (eVar 4) (aCons (eC (.int 1)) (aCons (eBin subD (eVar 2) (eC (.int 1))) aNil)))))) (tOf (eBin eqD (eVar 3) (eVar 4))))) (sRet (eC (.bool false))) sNil) (sRet (eAnd (eCall 3 F_is_within (aCons (eVar 6) (aCons (eC (.int 1)) (aCons (eVar 1) aNil)))) (eCall 3 F_is_within (aCons (eVar 5) (aCons (eC (.int 1)) (aCons (eVar 6) aNil)))))))))
noncomputable def F_is_span : Fn := mkFn 4 b_is_span
noncomputable def b_is_bound : Blk := (sSeq (sIf (tOrE (tNotE (tTru (eIsi "tuple" (eVar 0)))) (tOf (eBin neD (eCB lenD (aCons (eVar 0) aNil)) (eC (.int 3))))) (sRet (eC (.bool false))) sNil) (sSeq (sAsg (eVar 0) (gTp 3 (gsCons (gNm 2) (gsCons (gNm 3) (gsCons (gNm 4) gsNil))))) (sSeq (sIf (tOrE (tNotE (tTru (eCall 3 F_is_within (aCons (eVar 2) (aCons (eC (.int 0)) (aCons (eBin subD (eVar 1) (eC (.int 1))) aNil)))))) (tOrE (tNotE (tTru (eCall 3 F_is_within (aCons (eVar 3) (aCons (eC (.int 0)) (aCons (eBin subD (eVar 1) (eC (.int 1))) aNil)))))) (tOf (eBin eqD (eVar 2) (eVar 3))))) (sRet (eC (.bool false))) sNil) (sRet (eCall 3 F_is_within (aCons (eVar 4) (aCons (eBin subD (eC (.int 0)) (eC (.int 60))) (aCons (eC (.int 60)) aNil))))))))
noncomputable def F_is_bound : Fn := mkFn 3 b_is_bound
noncomputable def spans_by_goal_L1 : Blk := (sPut setD (eVar 1) (eIx (eVar 3) (eC (.int 1))) (eVar 2))
noncomputable def b_spans_by_goal : Blk := (sSeq (sSet 1 eDicM) (sSeq (sFor (itEnum (aCons (eVar 0) aNil)) (gTp 2 (gsCons (gNm 2) (gsCons (gNm 3) gsNil))) spans_by_goal_L1) (sRet (eFrz (eVar 1)))))
noncomputable def F_spans_by_goal : Fn := mkFn 3 b_spans_by_goal
noncomputable def way_from_T1 : Te := (tAndE (tOf (eBin inD (eVar 2) (eVar 1))) (tOf (eBin leD (eCB lenD (aCons (eVar 3) aNil)) (eCB lenD (aCons (eVar 0) aNil)))))
noncomputable def way_from_W2 : Blk := (sSeq (sExpr (eApp (eVar 3) (eIx (eVar 1) (eVar 2)))) (sSet 2 (eIx (eIx (eVar 0) (eIx (eVar 1) (eVar 2))) (eC (.int 0)))))
noncomputable def b_way_from : Blk := (sSeq (sSet 3 (eLstM aNil)) (sSeq (whileN way_from_T1 way_from_W2 fuelW) (sRet (eFrz (eVar 3)))))
noncomputable def F_way_from : Fn := mkFn 1 b_way_from
noncomputable def are_spans_E1 : Ex := (eCall 3 F_is_span (aCons (eVar 4) (aCons (eVar 1) (aCons (eVar 2) aNil))))
noncomputable def are_spans_E2 : Ex := (eBin leD (eCB lenD (aCons (eCall 3 F_way_from (aCons (eVar 0) (aCons (eVar 3) (aCons (eVar 5) aNil)))) aNil)) (eCB lenD (aCons (eVar 0) aNil)))
noncomputable def b_are_spans : Blk := (sSeq (sIf (tOrE (tNotE (tTru (eIsi "tuple" (eVar 0)))) (tOf (eBin gtD (eCB lenD (aCons (eVar 0) aNil)) (eC (.int 4))))) (sRet (eC (.bool false))) sNil) (sSeq (sIf (tNotE (tTru (eCB allBD (aCons (eLc (itSeq (eVar 0)) [4] (gNm 4) tYesE are_spans_E1) aNil)))) (sRet (eC (.bool false))) sNil) (sSeq (sSet 3 (eCall 1 F_spans_by_goal (aCons (eVar 0) aNil))) (sRet (eAnd (eBin eqD (eCB lenD (aCons (eVar 3) aNil)) (eCB lenD (aCons (eVar 0) aNil))) (eCB allBD (aCons (eLcK 3 [5] (gNm 5) tYesE are_spans_E2) aNil)))))))
noncomputable def F_are_spans : Fn := mkFn 3 b_are_spans
noncomputable def is_book_E1 : Ex := (eCall 2 F_is_bound (aCons (eVar 5) (aCons (eVar 2) aNil)))
noncomputable def b_is_book : Blk := (sSeq (sIf (tOrE (tNotE (tTru (eIsi "tuple" (eVar 0)))) (tOf (eBin neD (eCB lenD (aCons (eVar 0) aNil)) (eC (.int 4))))) (sRet (eC (.bool false))) sNil) (sSeq (sAsg (eVar 0) (gTp 4 (gsCons (gNm 1) (gsCons (gNm 2) (gsCons (gNm 3) (gsCons (gNm 4) gsNil)))))) (sSeq (sIf (tOrE (tNotE (tTru (eCall 3 F_is_within (aCons (eVar 1) (aCons (eC (.int 1)) (aCons (eC (.int 60)) aNil)))))) (tOrE (tNotE (tTru (eCall 3 F_is_within (aCons (eVar 2) (aCons (eC (.int 1)) (aCons (eC (.int 10)) aNil)))))) (tNotE (tTru (eCall 3 F_are_spans (aCons (eVar 3) (aCons (eVar 1) (aCons (eVar 2) aNil)))))))) (sRet (eC (.bool false))) sNil) (sSeq (sIf (tOrE (tNotE (tTru (eIsi "tuple" (eVar 4)))) (tOf (eBin gtD (eCB lenD (aCons (eVar 4) aNil)) (eC (.int 30))))) (sRet (eC (.bool false))) sNil) (sRet (eCB allBD (aCons (eLc (itSeq (eVar 4)) [5] (gNm 5) tYesE is_book_E1) aNil)))))))
noncomputable def F_is_book : Fn := mkFn 5 b_is_book
noncomputable def b_check_book : Blk := (sIf (tNotE (tTru (eCall 1 F_is_book (aCons (eVar 0) aNil)))) (sRaise { cls := "NoBook" }) sNil)
noncomputable def F_check_book : Fn := mkFn 0 b_check_book
noncomputable def read_number_E1 : Ex := (eBin inD (eVar 2) (eC (.str "0123456789")))
noncomputable def b_read_number : Blk := (sSeq (sSet 1 (eVar 0)) (sSeq (sIf (tOf (eBin eqD (eSl (eVar 0) pNone (pSome (eC (.int 1)))) (eC (.str "-")))) (sSet 1 (eSl (eVar 0) (pSome (eC (.int 1))) pNone)) sNil) (sSeq (sIf (tOrE (tOf (eBin eqD (eVar 1) (eC (.str "")))) (tNotE (tTru (eCB allBD (aCons (eLc (itStr (eVar 1)) [2] (gNm 2) tYesE read_number_E1) aNil))))) (sRet (eC .none)) sNil) (sSeq (sIf (tAndE (tOf (eBin eqD (eIx (eVar 1) (eC (.int 0))) (eC (.str "0")))) (tOf (eBin neD (eVar 0) (eC (.str "0"))))) (sRet (eC .none)) sNil) (sRet (eCB intSD (aCons (eVar 0) aNil)))))))
noncomputable def F_read_number : Fn := mkFn 2 b_read_number
noncomputable def read_row_E1 : Ex := (eCall 1 F_read_number (aCons (eVar 3) aNil))
noncomputable def b_read_row : Blk := (sSeq (sSet 1 (eSm splitD (eVar 0) (eC (.str " ")))) (sSeq (sSet 2 (eCB tupleD (aCons (eLc (itSeq (eSl (eVar 1) (pSome (eC (.int 1))) pNone)) [3] (gNm 3) tYesE read_row_E1) aNil))) (sSeq (sIf (tOrE (tOf (eBin neD (eWGetO [("hours", 1), ("marks", 1), ("span", 4), ("bound", 3)] (eIx (eVar 1) (eC (.int 0)))) (eCB lenD (aCons (eVar 2) aNil)))) (tOf (eBin inD (eC .none) (eVar 2)))) (sRet (eC .none)) sNil) (sRet (eTup (aCons (eIx (eVar 1) (eC (.int 0))) (aCons (eVar 2) aNil)))))))
noncomputable def F_read_row : Fn := mkFn 3 b_read_row
noncomputable def b_with_row : Blk := (sSeq (sAsg (eVar 2) (gTp 2 (gsCons (gNm 3) (gsCons (gNm 4) gsNil)))) (sSeq (sIf (tOf (eBin ltD (eVar 1) (eC (.int 2)))) (sSeq (sIf (tOf (eBin neD (eVar 3) (eIx (eLst (aCons (eC (.str "hours")) (aCons (eC (.str "marks")) aNil))) (eVar 1)))) (sRet (eC .none)) sNil) (sRet (eIx (eLst (aCons (eTup (aCons (eIx (eVar 4) (eC (.int 0))) (aCons (eC (.int 1)) (aCons (eTup aNil) (aCons (eTup aNil) aNil))))) (aCons (eTup (aCons (eIx (eVar 0) (eC (.int 0))) (aCons (eIx (eVar 4) (eC (.int 0))) (aCons (eTup aNil) (aCons (eTup aNil) aNil))))) aNil))) (eVar 1)))) sNil) (sSeq (sIf (tAndE (tOf (eBin eqD (eVar 3) (eC (.str "span")))) (tOf (eBin eqD (eIx (eVar 0) (eC (.int 3))) (eTup aNil)))) (sRet (eTup (aCons (eIx (eVar 0) (eC (.int 0))) (aCons (eIx (eVar 0) (eC (.int 1))) (aCons (eBin addD (eIx (eVar 0) (eC (.int 2))) (eTup (aCons (eVar 4) aNil))) (aCons (eTup aNil) aNil)))))) sNil) (sSeq (sIf (tOf (eBin eqD (eVar 3) (eC (.str "bound")))) (sRet (eTup (aCons (eIx (eVar 0) (eC (.int 0))) (aCons (eIx (eVar 0) (eC (.int 1))) (aCons (eIx (eVar 0) (eC (.int 2))) (aCons (eBin addD (eIx (eVar 0) (eC (.int 3))) (eTup (aCons (eVar 4) aNil))) aNil)))))) sNil) (sRet (eC .none))))))
noncomputable def F_with_row : Fn := mkFn 2 b_with_row
noncomputable def show_book_L1 : Blk := (sExpr (eApp (eVar 1) (eJs [(eC (.str "span ")), (eFmt (eVar 2)), (eC (.str " ")), (eFmt (eVar 3)), (eC (.str " ")), (eFmt (eVar 4)), (eC (.str " ")), (eFmt (eVar 5))] Str.empty)))
noncomputable def show_book_L2 : Blk := (sExpr (eApp (eVar 1) (eJs [(eC (.str "bound ")), (eFmt (eVar 2)), (eC (.str " ")), (eFmt (eVar 3)), (eC (.str " ")), (eFmt (eVar 6))] Str.empty)))
noncomputable def b_show_book : Blk := (sSeq (sExpr (eCall 1 F_check_book (aCons (eVar 0) aNil))) (sSeq (sSet 1 (eLstM (aCons (eJs [(eC (.str "hours ")), (eFmt (eIx (eVar 0) (eC (.int 0))))] Str.empty) (aCons (eJs [(eC (.str "marks ")), (eFmt (eIx (eVar 0) (eC (.int 1))))] Str.empty) aNil)))) (sSeq (sFor (itSeq (eIx (eVar 0) (eC (.int 2)))) (gTp 4 (gsCons (gNm 2) (gsCons (gNm 3) (gsCons (gNm 4) (gsCons (gNm 5) gsNil))))) show_book_L1) (sSeq (sFor (itSeq (eIx (eVar 0) (eC (.int 3)))) (gTp 3 (gsCons (gNm 2) (gsCons (gNm 3) (gsCons (gNm 6) gsNil)))) show_book_L2) (sFrz 1 (sRet (eSm joinD (eC (.str "\n")) (eVar 1))))))))
noncomputable def F_show_book : Fn := mkFn 6 b_show_book
noncomputable def read_book_L1 : Blk := (sSeq (sSet 5 (eCall 1 F_read_row (aCons (eVar 4) aNil))) (sSeq (sIf (tOf (eBin isD (eVar 5) (eC .none))) (sRaiseF "NoText" "row" (eVar 3)) sNil) (sSeq (sSet 1 (eCall 3 F_with_row (aCons (eVar 1) (aCons (eVar 3) (aCons (eVar 5) aNil))))) (sIf (tOrE (tOf (eBin isD (eVar 1) (eC .none))) (tNotE (tTru (eCall 1 F_is_book (aCons (eVar 1) aNil))))) (sRaiseF "NoText" "row" (eVar 3)) sNil))))
noncomputable def b_read_book : Blk := (sSeq (sIf (tNotE (tTru (eIsi "str" (eVar 0)))) (sRaiseF "NoText" "row" (eC (.int 0))) sNil) (sSeq (sSet 1 (eTup (aCons (eC (.int 1)) (aCons (eC (.int 1)) (aCons (eTup aNil) (aCons (eTup aNil) aNil)))))) (sSeq (sSet 2 (eSm splitD (eVar 0) (eC (.str "\n")))) (sSeq (sFor (itEnum (aCons (eVar 2) aNil)) (gTp 2 (gsCons (gNm 3) (gsCons (gNm 4) gsNil))) read_book_L1) (sSeq (sIf (tOf (eBin eqD (eCB lenD (aCons (eVar 2) aNil)) (eC (.int 1)))) (sRaiseF "NoText" "row" (eC (.int 0))) sNil) (sRet (eVar 1)))))))
noncomputable def F_read_book : Fn := mkFn 5 b_read_book
noncomputable def m_law_pool_L1 : Blk := (sSeq (sSet 3 (eBin modD (eBin addD (eBin addD (eBin mulD (eBin modD (eVar 3) (eC (.int 999999999989))) (eC (.int 69621))) (eBin mulD (eC (.int 40503)) (eVar 5))) (eC (.int 271))) (eC (.int 999999999989)))) (sSet 4 (eBin addD (eBin mulD (eVar 4) (eBin powD (eC (.int 10)) (eC (.int 11)))) (eBin modD (eBin mulD (eVar 3) (eBin addD (eBin modD (eVar 3) (eC (.int 65537))) (eC (.int 3)))) (eC (.int 99999999977))))))
noncomputable def b__law_pool : Blk := (sSeq (sSet 2 (eCB sumD (aCons (eSl (eVar 0) (pSome (eVar 1)) (pSome (eBin addD (eVar 1) (eC (.int 1))))) aNil))) (sSeq (sIf (tOrE (tOf (eBin ltD (eVar 2) (eC (.int 0)))) (tOf (eBin geD (eVar 2) (eBin powD (eC (.int 10)) (eC (.int 18)))))) (sRet (eLstM (aCons (eBin modD (eCB absD (aCons (eVar 2) aNil)) (eBin mulD (eBin mulD (eBin mulD (eBin mulD (eBin mulD (eBin powD (eC (.int 10)) (eC (.int 64))) (eBin powD (eC (.int 10)) (eC (.int 64)))) (eBin powD (eC (.int 10)) (eC (.int 64)))) (eBin powD (eC (.int 10)) (eC (.int 64)))) (eBin powD (eC (.int 10)) (eC (.int 64)))) (eBin powD (eC (.int 10)) (eC (.int 64))))) aNil))) sNil) (sSeq (sSet 3 (eBin addD (eBin addD (eBin mulD (eVar 2) (eC (.int 48271))) (eBin mulD (eBin mulD (eC (.int 977)) (eVar 1)) (eVar 1))) (eC (.int 13)))) (sSeq (sSet 4 (eC (.int 0))) (sSeq (sFor (itR1 (aCons (eC (.int 27)) aNil)) (gNm 5) m_law_pool_L1) (sRet (eLstM (aCons (eVar 4) aNil))))))))
noncomputable def F__law_pool : Fn := mkFn 4 b__law_pool
noncomputable def b__law_take : Blk := (sSeq (sAsg (eCB divmodD (aCons (eIx (eVar 0) (eC (.int 0))) (aCons (eVar 1) aNil))) (gTp 2 (gsCons (gSb setL (eVar 0) (eC (.int 0))) (gsCons (gNm 2) gsNil)))) (sRet (eVar 2)))
noncomputable def F__law_take : Fn := mkFn 1 b__law_take
noncomputable def m_law_spans_T1 : Te := (tOf (eBin inD (eVar 11) (eVar 5)))
noncomputable def m_law_spans_W2 : Blk := (sSet 11 (eIx (eVar 5) (eVar 11)))
noncomputable def m_law_spans_L3 : Blk := (sSeq (sPar [7, 8] (aCons (eCall 2 F__law_take (aCons (eVar 0) (aCons (eVar 1) aNil))) (aCons (eCall 2 F__law_take (aCons (eVar 0) (aCons (eVar 1) aNil))) aNil))) (sSeq (sSet 9 (eBin addD (eC (.int 1)) (eCall 2 F__law_take (aCons (eVar 0) (aCons (eIx (eLst (aCons (eCB min2D (aCons (eC (.int 3)) (aCons (eVar 2) aNil))) (aCons (eVar 2) aNil))) (eCall 2 F__law_take (aCons (eVar 0) (aCons (eC (.int 2)) aNil)))) aNil))))) (sSeq (sSet 10 (eCB min2D (aCons (eVar 2) (aCons (eBin addD (eVar 9) (eCall 2 F__law_take (aCons (eVar 0) (aCons (eIx (eLst (aCons (eC (.int 1)) (aCons (eC (.int 4)) (aCons (eVar 2) aNil)))) (eCall 2 F__law_take (aCons (eVar 0) (aCons (eC (.int 3)) aNil)))) aNil)))) aNil)))) (sSeq (sSet 11 (eVar 7)) (sSeq (whileN m_law_spans_T1 m_law_spans_W2 fuelW) (sIf (tAndE (tOf (eBin gtD (eVar 8) (eC (.int 0)))) (tAndE (tOf (eBin neD (eVar 8) (eVar 7))) (tAndE (tOf (eBin ninD (eVar 8) (eVar 5))) (tOf (eBin neD (eVar 11) (eVar 8)))))) (sSeq (sPut setD (eVar 5) (eVar 8) (eVar 7)) (sExpr (eApp (eVar 4) (eTup (aCons (eVar 7) (aCons (eVar 8) (aCons (eVar 9) (aCons (eVar 10) aNil)))))))) sNil))))))
noncomputable def b__law_spans : Blk := (sSeq (sSet 4 (eLstM aNil)) (sSeq (sSet 5 eDicM) (sSeq (sFor (itR1 (aCons (eCall 2 F__law_take (aCons (eVar 0) (aCons (eBin addD (eVar 3) (eC (.int 1))) aNil))) aNil)) (gNm 6) m_law_spans_L3) (sFrz 4 (sRet (eCB tupleD (aCons (eVar 4) aNil)))))))
noncomputable def F__law_spans : Fn := mkFn 8 b__law_spans
noncomputable def m_law_bounds_L1 : Blk := (sSeq (sPar [6, 7] (aCons (eCall 2 F__law_take (aCons (eVar 0) (aCons (eVar 1) aNil))) (aCons (eCall 2 F__law_take (aCons (eVar 0) (aCons (eVar 1) aNil))) aNil))) (sSeq (sSet 8 (eCall 2 F__law_take (aCons (eVar 0) (aCons (eC (.int 4)) aNil)))) (sSeq (sSet 9 (eCall 2 F__law_take (aCons (eVar 0) (aCons (eBin addD (eVar 2) (eC (.int 1))) aNil)))) (sSeq (sSet 10 (eIx (eLst (aCons (eVar 8) (aCons (eBin subD (eC (.int 0)) (eVar 8)) (aCons (eVar 9) (aCons (eBin subD (eC (.int 0)) (eVar 9)) aNil))))) (eCall 2 F__law_take (aCons (eVar 0) (aCons (eC (.int 4)) aNil))))) (sIf (tOf (eBin neD (eVar 6) (eVar 7))) (sExpr (eApp (eVar 4) (eTup (aCons (eVar 6) (aCons (eVar 7) (aCons (eVar 10) aNil)))))) sNil)))))
noncomputable def b__law_bounds : Blk := (sSeq (sSet 4 (eLstM aNil)) (sSeq (sFor (itR1 (aCons (eCall 2 F__law_take (aCons (eVar 0) (aCons (eBin addD (eVar 3) (eC (.int 1))) aNil))) aNil)) (gNm 5) m_law_bounds_L1) (sFrz 4 (sRet (eCB tupleD (aCons (eVar 4) aNil))))))
noncomputable def F__law_bounds : Fn := mkFn 7 b__law_bounds
noncomputable def m_law_near_bounds_E1 : Ex := (eCall 2 F__law_take (aCons (eVar 0) (aCons (eBin addD (eVar 3) (eC (.int 1))) aNil)))
noncomputable def m_law_near_bounds_E2 : Ex := (eBin addD (eVar 12) (eCall 2 F__law_take (aCons (eVar 0) (aCons (eBin addD (eBin subD (eVar 13) (eVar 12)) (eC (.int 1))) aNil))))
noncomputable def m_law_near_bounds_L3 : Blk := (sPut setL (eVar 7) (eVar 11) (eBin addD (eIx (eVar 7) (eVar 10)) (eVar 14)))
noncomputable def m_law_near_bounds_L4 : Blk := (sFor (itZipX (aCons (eVar 5) (aCons (eVar 8) aNil))) (gTp 2 (gsCons (gTp 4 (gsCons (gNm 10) (gsCons (gNm 11) (gsCons (gNm 12) (gsCons (gNm 13) gsNil))))) (gsCons (gNm 14) gsNil))) m_law_near_bounds_L3)
noncomputable def m_law_near_bounds_L5 : Blk := (sSeq (sPar [10, 16] (aCons (eCall 2 F__law_take (aCons (eVar 0) (aCons (eVar 4) aNil))) (aCons (eCall 2 F__law_take (aCons (eVar 0) (aCons (eVar 4) aNil))) aNil))) (sSeq (sSet 17 (eBin addD (eBin subD (eIx (eVar 7) (eVar 16)) (eIx (eVar 7) (eVar 10))) (eIx (eLst (aCons (eC (.int 0)) (aCons (eC (.int 0)) (aCons (eC (.int 1)) (aCons (eC (.int 2)) (aCons (eC (.int 3)) (aCons (eBin subD (eC (.int 0)) (eC (.int 1))) aNil))))))) (eCall 2 F__law_take (aCons (eVar 0) (aCons (eC (.int 6)) aNil)))))) (sIf (tAndE (tOf (eBin neD (eVar 10) (eVar 16))) (tOf (eBin leD (eCB absD (aCons (eVar 17) aNil)) (eC (.int 60))))) (sExpr (eApp (eVar 15) (eTup (aCons (eVar 10) (aCons (eVar 16) (aCons (eVar 17) aNil)))))) sNil)))
noncomputable def b__law_near_bounds : Blk := (sSeq (sAsg (eVar 1) (gTp 4 (gsCons (gNm 3) (gsCons (gNm 4) (gsCons (gNm 5) (gsCons (gNm 6) gsNil)))))) (sSeq (sSet 7 (eLcN (itR1 (aCons (eVar 4) aNil)) [18] (gNm 18) tYesE m_law_near_bounds_E1)) (sSeq (sPut setL (eVar 7) (eC (.int 0)) (eC (.int 0))) (sSeq (sSet 8 (eLc (itSeq (eVar 5)) [10, 11, 12, 13] (gTp 4 (gsCons (gNm 10) (gsCons (gNm 11) (gsCons (gNm 12) (gsCons (gNm 13) gsNil))))) tYesE m_law_near_bounds_E2)) (sSeq (sFor (itR1 (aCons (eCB lenD (aCons (eVar 5) aNil)) aNil)) (gNm 9) m_law_near_bounds_L4) (sFrz 7 (sSeq (sSet 15 (eLstM aNil)) (sSeq (sFor (itR1 (aCons (eCall 2 F__law_take (aCons (eVar 0) (aCons (eBin addD (eVar 2) (eC (.int 1))) aNil))) aNil)) (gNm 9) m_law_near_bounds_L5) (sFrz 15 (sRet (eCB tupleD (aCons (eVar 15) aNil))))))))))))
noncomputable def F__law_near_bounds : Fn := mkFn 16 b__law_near_bounds
noncomputable def b__law_book : Blk := (sSeq (sSet 5 (eCall 2 F__law_take (aCons (eVar 0) (aCons (eC (.int 3)) aNil)))) (sSeq (sSet 6 (eBin addD (eC (.int 1)) (eCall 2 F__law_take (aCons (eVar 0) (aCons (eVar 4) aNil))))) (sSeq (sSet 7 (eBin addD (eC (.int 1)) (eCall 2 F__law_take (aCons (eVar 0) (aCons (eVar 1) aNil))))) (sSeq (sSet 8 (eCall 4 F__law_spans (aCons (eVar 0) (aCons (eVar 7) (aCons (eVar 6) (aCons (eVar 2) aNil)))))) (sSeq (sSet 9 (eTup (aCons (eVar 6) (aCons (eVar 7) (aCons (eVar 8) (aCons (eTup aNil) aNil)))))) (sSeq (sIf (tOf (eBin eqD (eVar 5) (eC (.int 0)))) (sRet (eTup (aCons (eVar 6) (aCons (eVar 7) (aCons (eVar 8) (aCons (eCall 4 F__law_bounds (aCons (eVar 0) (aCons (eVar 7) (aCons (eVar 6) (aCons (eVar 3) aNil))))) aNil)))))) sNil) (sRet (eTup (aCons (eVar 6) (aCons (eVar 7) (aCons (eVar 8) (aCons (eCall 3 F__law_near_bounds (aCons (eVar 0) (aCons (eVar 9) (aCons (eVar 3) aNil)))) aNil))))))))))))
noncomputable def F__law_book : Fn := mkFn 5 b__law_book
noncomputable def m_law_rows_E1 : Ex := (eCB strD (aCons (eVar 7) aNil))
noncomputable def m_law_rows_L2 : Blk := (sExpr (eApp (eVar 5) (eBin addD (eC (.str "span ")) (eSm joinD (eC (.str " ")) (eLc (itSeq (eVar 6)) [7] (gNm 7) tYesE m_law_rows_E1)))))
noncomputable def m_law_rows_E3 : Ex := (eCB strD (aCons (eVar 7) aNil))
noncomputable def m_law_rows_E4 : Ex := (eBin addD (eC (.str "bound ")) (eSm joinD (eC (.str " ")) (eLc (itSeq (eVar 8)) [7] (gNm 7) tYesE m_law_rows_E3)))
noncomputable def b__law_rows : Blk := (sSeq (sAsg (eVar 0) (gTp 4 (gsCons (gNm 1) (gsCons (gNm 2) (gsCons (gNm 3) (gsCons (gNm 4) gsNil)))))) (sSeq (sSet 5 (eLstM (aCons (eBin addD (eC (.str "hours ")) (eCB strD (aCons (eVar 1) aNil))) (aCons (eBin addD (eC (.str "marks ")) (eCB strD (aCons (eVar 2) aNil))) aNil)))) (sSeq (sFor (itSeq (eVar 3)) (gNm 6) m_law_rows_L2) (sFrz 5 (sRet (eBin addD (eVar 5) (eLc (itSeq (eVar 4)) [8] (gNm 8) tYesE m_law_rows_E4)))))))
noncomputable def F__law_rows : Fn := mkFn 8 b__law_rows
noncomputable def b__law_reads : Blk := (sSeq (sSet 2 (eSm joinD (eC (.str "\n")) (eVar 0))) (sSeq (sSet 3 (eCall 1 F_read_book (aCons (eVar 2) aNil))) (sRet (eAnd (eBin eqD (eVar 3) (eVar 1)) (eAnd (eIsi "tuple" (eVar 3)) (eBin eqD (eCall 1 F_show_book (aCons (eVar 1) aNil)) (eVar 2)))))))
noncomputable def F__law_reads : Fn := mkFn 2 b__law_reads
noncomputable def b__law_refused : Blk := (sSeq (sSet 2 (eC .none)) (sSeq (sTryE (mTab [("NoText", true)]) 3 (sExpr (eCall 1 F_read_book (aCons (eSm joinD (eC (.str "\n")) (eVar 0)) aNil))) (sSet 2 (eXF ["NoText"] "row" (eVar 3)))) (sRet (eAnd (eBin eqD (eVar 2) (eVar 1)) (eNot (eIsi "bool" (eVar 2)))))))
noncomputable def F__law_refused : Fn := mkFn 2 b__law_refused
noncomputable def m_law_begins_right_L1 : Blk := (sSeq (sSet 7 (eBin subD (eVar 6) (eC (.int 2)))) (sSeq (sSet 8 (eTup (aCons (eVar 1) (aCons (eVar 2) (aCons (eSl (eVar 3) pNone (pSome (eVar 7))) (aCons (eSl (eVar 4) pNone (pSome (eCB max2D (aCons (eC (.int 0)) (aCons (eBin subD (eVar 7) (eCB lenD (aCons (eVar 3) aNil))) aNil))))) aNil)))))) (sIf (tNotE (tTru (eCall 2 F__law_reads (aCons (eSl (eVar 5) pNone (pSome (eVar 6))) (aCons (eVar 8) aNil))))) (sRet (eC (.bool false))) sNil)))
noncomputable def b__law_begins_right : Blk := (sSeq (sAsg (eVar 0) (gTp 4 (gsCons (gNm 1) (gsCons (gNm 2) (gsCons (gNm 3) (gsCons (gNm 4) gsNil)))))) (sSeq (sSet 5 (eCall 1 F__law_rows (aCons (eVar 0) aNil))) (sSeq (sFor (itR2 (aCons (eC (.int 2)) (aCons (eBin addD (eCB lenD (aCons (eVar 5) aNil)) (eC (.int 1))) aNil))) (gNm 6) m_law_begins_right_L1) (sRet (eAnd (eCall 2 F__law_refused (aCons (eSl (eVar 5) pNone (pSome (eC (.int 1)))) (aCons (eC (.int 0)) aNil))) (eCall 2 F__law_refused (aCons (eLst aNil) (aCons (eC (.int 0)) aNil))))))))
noncomputable def F__law_begins_right : Fn := mkFn 8 b__law_begins_right
noncomputable def m_law_turned_right_E1 : Ex := (eCall 2 F__law_reads (aCons (eCall 1 F__law_rows (aCons (eVar 8) aNil)) (aCons (eVar 8) aNil)))
noncomputable def b__law_turned_right : Blk := (sSeq (sAsg (eVar 1) (gTp 4 (gsCons (gNm 2) (gsCons (gNm 3) (gsCons (gNm 4) (gsCons (gNm 5) gsNil)))))) (sSeq (sSet 6 (eCall 2 F__law_take (aCons (eVar 0) (aCons (eBin addD (eCB lenD (aCons (eVar 5) aNil)) (eC (.int 1))) aNil)))) (sSeq (sSet 7 (eLstM (aCons (eTup (aCons (eVar 2) (aCons (eVar 3) (aCons (eRev (eVar 4)) (aCons (eVar 5) aNil))))) aNil))) (sSeq (sExpr (eApp (eVar 7) (eTup (aCons (eVar 2) (aCons (eVar 3) (aCons (eVar 4) (aCons (eRev (eVar 5)) aNil))))))) (sSeq (sExpr (eApp (eVar 7) (eTup (aCons (eVar 2) (aCons (eVar 3) (aCons (eBin addD (eSl (eVar 4) (pSome (eC (.int 1))) pNone) (eSl (eVar 4) pNone (pSome (eC (.int 1))))) (aCons (eVar 5) aNil))))))) (sSeq (sExpr (eApp (eVar 7) (eTup (aCons (eVar 2) (aCons (eVar 3) (aCons (eVar 4) (aCons (eBin addD (eSl (eVar 5) (pSome (eVar 6)) pNone) (eSl (eVar 5) pNone (pSome (eVar 6)))) aNil))))))) (sFrz 7 (sRet (eCB allBD (aCons (eLc (itSeq (eVar 7)) [8] (gNm 8) tYesE m_law_turned_right_E1) aNil))))))))))
noncomputable def F__law_turned_right : Fn := mkFn 7 b__law_turned_right
noncomputable def b__law_more_right : Blk := (sSeq (sAsg (eVar 1) (gTp 4 (gsCons (gNm 3) (gsCons (gNm 4) (gsCons (gNm 5) (gsCons (gNm 6) gsNil)))))) (sSeq (sSet 7 (eCall 1 F__law_rows (aCons (eVar 1) aNil))) (sSeq (sSet 8 (eCall 1 F__law_rows (aCons (eVar 2) aNil))) (sSeq (sIf (tNotE (tTru (eCall 2 F__law_refused (aCons (eBin addD (eVar 7) (eVar 8)) (aCons (eCB lenD (aCons (eVar 7) aNil)) aNil))))) (sRet (eC (.bool false))) sNil) (sSeq (sIf (tNotE (tTru (eCall 2 F__law_refused (aCons (eBin addD (eVar 7) (eLst (aCons (eIx (eVar 8) (eC (.int 1))) aNil))) (aCons (eCB lenD (aCons (eVar 7) aNil)) aNil))))) (sRet (eC (.bool false))) sNil) (sSeq (sIf (tOf (eBin neD (eVar 5) (eTup aNil))) (sSeq (sSet 9 (eCall 2 F__law_take (aCons (eVar 0) (aCons (eCB lenD (aCons (eVar 5) aNil)) aNil)))) (sSeq (sSet 10 (eBin addD (eC (.int 2)) (eCB lenD (aCons (eVar 5) aNil)))) (sSeq (sSet 11 (eBin addD (eBin addD (eSl (eVar 7) pNone (pSome (eVar 10))) (eLst (aCons (eIx (eVar 7) (eBin addD (eC (.int 2)) (eVar 9))) aNil))) (eSl (eVar 7) (pSome (eVar 10)) pNone))) (sSeq (sIf (tNotE (tTru (eCall 2 F__law_refused (aCons (eVar 11) (aCons (eVar 10) aNil))))) (sRet (eC (.bool false))) sNil) (sIf (tNotE (tTru (eCall 2 F__law_refused (aCons (eBin addD (eVar 7) (eLst (aCons (eIx (eVar 7) (eBin addD (eC (.int 2)) (eVar 9))) aNil))) (aCons (eCB lenD (aCons (eVar 7) aNil)) aNil))))) (sRet (eC (.bool false))) sNil))))) sNil) (sSeq (sIf (tOf (eBin neD (eVar 6) (eTup aNil))) (sSeq (sSet 9 (eCall 2 F__law_take (aCons (eVar 0) (aCons (eCB lenD (aCons (eVar 6) aNil)) aNil)))) (sSeq (sSet 12 (eBin addD (eVar 6) (eBin repTD (eTup (aCons (eIx (eVar 6) (eVar 9)) aNil)) (eBin subD (eC (.int 30)) (eCB lenD (aCons (eVar 6) aNil)))))) (sSeq (sSet 13 (eTup (aCons (eVar 3) (aCons (eVar 4) (aCons (eVar 5) (aCons (eVar 12) aNil)))))) (sSeq (sIf (tNotE (tTru (eCall 2 F__law_reads (aCons (eCall 1 F__law_rows (aCons (eVar 13) aNil)) (aCons (eVar 13) aNil))))) (sRet (eC (.bool false))) sNil) (sSeq (sSet 13 (eTup (aCons (eVar 3) (aCons (eVar 4) (aCons (eVar 5) (aCons (eBin addD (eVar 12) (eSl (eVar 12) pNone (pSome (eC (.int 2))))) aNil)))))) (sSeq (sIf (tNotE (tTru (eCall 2 F__law_refused (aCons (eCall 1 F__law_rows (aCons (eVar 13) aNil)) (aCons (eBin addD (eC (.int 32)) (eCB lenD (aCons (eVar 5) aNil))) aNil))))) (sRet (eC (.bool false))) sNil) (sSeq (sSet 13 (eTup (aCons (eVar 3) (aCons (eVar 4) (aCons (eSl (eVar 5) pNone (pSome (eNeg (eC (.int 1))))) (aCons (eVar 6) aNil)))))) (sSeq (sSet 14 (eBin addD (eCall 1 F__law_rows (aCons (eVar 13) aNil)) (eLst (aCons (eIx (eVar 7) (eBin addD (eC (.int 1)) (eCB lenD (aCons (eVar 5) aNil)))) aNil)))) (sIf (tAndE (tOf (eBin neD (eVar 5) (eTup aNil))) (tNotE (tTru (eCall 2 F__law_refused (aCons (eVar 14) (aCons (eBin subD (eCB lenD (aCons (eVar 7) aNil)) (eC (.int 1))) aNil)))))) (sRet (eC (.bool false))) sNil))))))))) sNil) (sRet (eC (.bool true))))))))))
noncomputable def F__law_more_right : Fn := mkFn 12 b__law_more_right
noncomputable def law_L1 : Blk := (sSeq (sSet 2 (eCall 2 F__law_pool (aCons (eVar 0) (aCons (eVar 1) aNil)))) (sSeq (sSet 3 (eIx (eLst (aCons (eTup (aCons (eC (.int 6)) (aCons (eC (.int 4)) (aCons (eC (.int 8)) (aCons (eC (.int 20)) aNil))))) (aCons (eTup (aCons (eC (.int 10)) (aCons (eC (.int 4)) (aCons (eC (.int 30)) (aCons (eC (.int 60)) aNil))))) aNil))) (eBin fdivD (eCall 2 F__law_take (aCons (eVar 2) (aCons (eC (.int 8)) aNil))) (eC (.int 7))))) (sSeq (sSet 4 (eCall 5 F__law_book (aCons (eVar 2) (aCons (eIx (eVar 3) (eC (.int 0))) (aCons (eIx (eVar 3) (eC (.int 1))) (aCons (eIx (eVar 3) (eC (.int 2))) (aCons (eIx (eVar 3) (eC (.int 3))) aNil))))))) (sSeq (sSet 5 (eCall 5 F__law_book (aCons (eCall 2 F__law_pool (aCons (eVar 0) (aCons (eBin addD (eVar 1) (eC (.int 1))) aNil))) (aCons (eC (.int 6)) (aCons (eC (.int 4)) (aCons (eC (.int 8)) (aCons (eC (.int 20)) aNil))))))) (sSeq (sIf (tOrE (tNotE (tTru (eCall 1 F__law_begins_right (aCons (eVar 4) aNil)))) (tNotE (tTru (eCall 2 F__law_turned_right (aCons (eVar 2) (aCons (eVar 4) aNil)))))) (sRet (eC (.bool false))) sNil) (sSeq (sIf (tNotE (tTru (eCall 3 F__law_more_right (aCons (eVar 2) (aCons (eVar 4) (aCons (eVar 5) aNil)))))) (sRet (eC (.bool false))) sNil) (sIf (tNotE (tTru (eCall 2 F__law_reads (aCons (eCall 1 F__law_rows (aCons (eVar 4) aNil)) (aCons (eVar 4) aNil))))) (sRet (eC (.bool false))) sNil)))))))
noncomputable def b_law : Blk := (sSeq (sFor (itR3p (aCons (eC (.int 0)) (aCons (eCB max2D (aCons (eC (.int 1)) (aCons (eCB min2D (aCons (eCB lenD (aCons (eVar 0) aNil)) (aCons (eC (.int 12)) aNil))) aNil))) (aCons (eC (.int 2)) aNil)))) (gNm 1) law_L1) (sRet (eC (.bool true))))
noncomputable def F_law : Fn := mkFn 5 b_law
end Law
namespace Law
open PySem L2 DL
noncomputable def topS (i : Nat) : Stmt := PySem.Challenge.pw_loosehours_k06_whole_texts_row_by_row.main.body.getD i (.Pass ⟨0, 0, 0, 0⟩)
noncomputable abbrev s_is_whole : Stmt := topS 10
theorem sc_is_whole : FnScope ["x"] ["x"] (defScope s_is_whole) := ⟨rfl, rfl, rfl, by decide +kernel, rfl, by decide +kernel, by decide +kernel⟩
noncomputable abbrev s_is_within : Stmt := topS 11
theorem sc_is_within : FnScope ["x", "least", "most"] ["x", "least", "most"] (defScope s_is_within) := ⟨rfl, rfl, rfl, by decide +kernel, rfl, by decide +kernel, by decide +kernel⟩
noncomputable abbrev s_is_span : Stmt := topS 12
theorem sc_is_span : FnScope ["thing", "end", "many", "one", "other", "least", "most"] ["thing", "end", "many"] (defScope s_is_span) := ⟨rfl, rfl, rfl, by decide +kernel, rfl, by decide +kernel, by decide +kernel⟩
noncomputable abbrev s_is_bound : Stmt := topS 13
theorem sc_is_bound : FnScope ["thing", "many", "one", "other", "number"] ["thing", "many"] (defScope s_is_bound) := ⟨rfl, rfl, rfl, by decide +kernel, rfl, by decide +kernel, by decide +kernel⟩
noncomputable abbrev s_spans_by_goal : Stmt := topS 14
theorem sc_spans_by_goal : FnScope ["spans", "found", "at", "span"] ["spans"] (defScope s_spans_by_goal) := ⟨rfl, rfl, rfl, by decide +kernel, rfl, by decide +kernel, by decide +kernel⟩
noncomputable abbrev s_way_from : Stmt := topS 15
theorem sc_way_from : FnScope ["spans", "known", "mark", "found"] ["spans", "known", "mark"] (defScope s_way_from) := ⟨rfl, rfl, rfl, by decide +kernel, rfl, by decide +kernel, by decide +kernel⟩
noncomputable abbrev s_are_spans : Stmt := topS 16
theorem sc_are_spans : FnScope ["thing", "end", "many", "known", "span", "mark"] ["thing", "end", "many"] (defScope s_are_spans) := ⟨rfl, rfl, rfl, by decide +kernel, rfl, by decide +kernel, by decide +kernel⟩
noncomputable abbrev s_is_book : Stmt := topS 17
theorem sc_is_book : FnScope ["thing", "end", "many", "spans", "bounds", "bound"] ["thing"] (defScope s_is_book) := ⟨rfl, rfl, rfl, by decide +kernel, rfl, by decide +kernel, by decide +kernel⟩
noncomputable abbrev s_check_book : Stmt := topS 18
theorem sc_check_book : FnScope ["book"] ["book"] (defScope s_check_book) := ⟨rfl, rfl, rfl, by decide +kernel, rfl, by decide +kernel, by decide +kernel⟩
noncomputable abbrev s_read_number : Stmt := topS 21
theorem sc_read_number : FnScope ["word", "figures", "sign"] ["word"] (defScope s_read_number) := ⟨rfl, rfl, rfl, by decide +kernel, rfl, by decide +kernel, by decide +kernel⟩
noncomputable abbrev s_read_row : Stmt := topS 22
theorem sc_read_row : FnScope ["row", "words", "numbers", "word"] ["row"] (defScope s_read_row) := ⟨rfl, rfl, rfl, by decide +kernel, rfl, by decide +kernel, by decide +kernel⟩
noncomputable abbrev s_with_row : Stmt := topS 23
theorem sc_with_row : FnScope ["book", "at", "told", "word", "numbers"] ["book", "at", "told"] (defScope s_with_row) := ⟨rfl, rfl, rfl, by decide +kernel, rfl, by decide +kernel, by decide +kernel⟩
noncomputable abbrev s_show_book : Stmt := topS 24
theorem sc_show_book : FnScope ["book", "rows", "one", "other", "least", "most", "number"] ["book"] (defScope s_show_book) := ⟨rfl, rfl, rfl, by decide +kernel, rfl, by decide +kernel, by decide +kernel⟩
noncomputable abbrev s_read_book : Stmt := topS 25
theorem sc_read_book : FnScope ["text", "book", "rows", "at", "row", "told"] ["text"] (defScope s_read_book) := ⟨rfl, rfl, rfl, by decide +kernel, rfl, by decide +kernel, by decide +kernel⟩
noncomputable abbrev s__law_pool : Stmt := topS 27
theorem sc__law_pool : FnScope ["_law_script", "_law_k", "_law_cell", "_law_more", "_law_found", "_law_turn"] ["_law_script", "_law_k"] (defScope s__law_pool) := ⟨rfl, rfl, rfl, by decide +kernel, rfl, by decide +kernel, by decide +kernel⟩
noncomputable abbrev s__law_take : Stmt := topS 28
theorem sc__law_take : FnScope ["_law_pool_here", "_law_many", "_law_digit"] ["_law_pool_here", "_law_many"] (defScope s__law_take) := ⟨rfl, rfl, rfl, by decide +kernel, rfl, by decide +kernel, by decide +kernel⟩
noncomputable abbrev s__law_spans : Stmt := topS 29
theorem sc__law_spans : FnScope ["_law_pool_here", "_law_many", "_law_end", "_law_most", "_law_found", "_law_hung", "_law_turn", "_law_a", "_law_c", "_law_least", "_law_longest", "_law_here"] ["_law_pool_here", "_law_many", "_law_end", "_law_most"] (defScope s__law_spans) := ⟨rfl, rfl, rfl, by decide +kernel, rfl, by decide +kernel, by decide +kernel⟩
noncomputable abbrev s__law_bounds : Stmt := topS 30
theorem sc__law_bounds : FnScope ["_law_pool_here", "_law_many", "_law_end", "_law_most", "_law_found", "_law_turn", "_law_a", "_law_b", "_law_near", "_law_far", "_law_w"] ["_law_pool_here", "_law_many", "_law_end", "_law_most"] (defScope s__law_bounds) := ⟨rfl, rfl, rfl, by decide +kernel, rfl, by decide +kernel, by decide +kernel⟩
noncomputable abbrev s__law_near_bounds : Stmt := topS 31
theorem sc__law_near_bounds : FnScope ["_law_pool_here", "_law_book_here", "_law_most", "_law_end", "_law_many", "_law_spans_here", "_law_nothing", "_law_hours", "_law_lengths", "_law_turn", "_law_a", "_law_c", "_law_least", "_law_longest", "_law_length", "_law_found", "_law_b", "_law_w", "_law_mark"] ["_law_pool_here", "_law_book_here", "_law_most"] (defScope s__law_near_bounds) := ⟨rfl, rfl, rfl, by decide +kernel, rfl, by decide +kernel, by decide +kernel⟩
noncomputable abbrev s__law_book : Stmt := topS 32
theorem sc__law_book : FnScope ["_law_pool_here", "_law_most_marks", "_law_most_spans", "_law_most_bounds", "_law_most_end", "_law_near", "_law_end", "_law_many", "_law_spans_here", "_law_book_here"] ["_law_pool_here", "_law_most_marks", "_law_most_spans", "_law_most_bounds", "_law_most_end"] (defScope s__law_book) := ⟨rfl, rfl, rfl, by decide +kernel, rfl, by decide +kernel, by decide +kernel⟩
noncomputable abbrev s__law_rows : Stmt := topS 33
theorem sc__law_rows : FnScope ["_law_book_here", "_law_end", "_law_many", "_law_spans_here", "_law_bounds_here", "_law_found", "_law_span", "_law_part", "_law_bound"] ["_law_book_here"] (defScope s__law_rows) := ⟨rfl, rfl, rfl, by decide +kernel, rfl, by decide +kernel, by decide +kernel⟩
noncomputable abbrev s__law_reads : Stmt := topS 34
theorem sc__law_reads : FnScope ["_law_rows_here", "_law_book_here", "_law_text", "_law_found"] ["_law_rows_here", "_law_book_here"] (defScope s__law_reads) := ⟨rfl, rfl, rfl, by decide +kernel, rfl, by decide +kernel, by decide +kernel⟩
noncomputable abbrev s__law_refused : Stmt := topS 35
theorem sc__law_refused : FnScope ["_law_rows_here", "_law_row", "_law_caught", "e"] ["_law_rows_here", "_law_row"] (defScope s__law_refused) := ⟨rfl, rfl, rfl, by decide +kernel, rfl, by decide +kernel, by decide +kernel⟩
noncomputable abbrev s__law_begins_right : Stmt := topS 36
theorem sc__law_begins_right : FnScope ["_law_book_here", "_law_end", "_law_many", "_law_spans_here", "_law_bounds_here", "_law_rows_here", "_law_size", "_law_first", "_law_some"] ["_law_book_here"] (defScope s__law_begins_right) := ⟨rfl, rfl, rfl, by decide +kernel, rfl, by decide +kernel, by decide +kernel⟩
noncomputable abbrev s__law_turned_right : Stmt := topS 37
theorem sc__law_turned_right : FnScope ["_law_pool_here", "_law_book_here", "_law_end", "_law_many", "_law_spans_here", "_law_bounds_here", "_law_at", "_law_turned", "_law_some"] ["_law_pool_here", "_law_book_here"] (defScope s__law_turned_right) := ⟨rfl, rfl, rfl, by decide +kernel, rfl, by decide +kernel, by decide +kernel⟩
noncomputable abbrev s__law_more_right : Stmt := topS 38
theorem sc__law_more_right : FnScope ["_law_pool_here", "_law_book_here", "_law_other", "_law_end", "_law_many", "_law_spans_here", "_law_bounds_here", "_law_rows_here", "_law_more", "_law_at", "_law_size", "_law_twice", "_law_full", "_law_some", "_law_late"] ["_law_pool_here", "_law_book_here", "_law_other"] (defScope s__law_more_right) := ⟨rfl, rfl, rfl, by decide +kernel, rfl, by decide +kernel, by decide +kernel⟩
noncomputable abbrev s_law : Stmt := topS 39
theorem sc_law : FnScope ["_law_script", "_law_k", "_law_pool_here", "_law_sizes", "_law_book_here", "_law_other"] ["_law_script"] (defScope s_law) := ⟨rfl, rfl, rfl, by decide +kernel, rfl, by decide +kernel, by decide +kernel⟩
noncomputable abbrev s_NoText_init : Stmt := inClass (topS 3) 0
theorem sc_NoText_init : FnScope ["self", "row"] ["self", "row"] (defScope s_NoText_init) := ⟨rfl, rfl, rfl, by decide +kernel, rfl, by decide +kernel, by decide +kernel⟩
set_option genInjectivity false in
set_option genSizeOfSpec false in
structure TX (K : PySem.W.Frag) (mg : Str → Option Value) (w : World) where
  a_is_whole : Addr
  fd_is_whole : FuncData
  m_is_whole : mg "is_whole" = some (.ref a_is_whole)
  F_is_whole : Fun K "is_whole" "is_whole" s_is_whole a_is_whole fd_is_whole
  B_is_whole : Binds K fd_is_whole ["x"] []
  a_is_within : Addr
  fd_is_within : FuncData
  m_is_within : mg "is_within" = some (.ref a_is_within)
  F_is_within : Fun K "is_within" "is_within" s_is_within a_is_within fd_is_within
  B_is_within : Binds K fd_is_within ["x", "least", "most"] []
  a_is_span : Addr
  fd_is_span : FuncData
  m_is_span : mg "is_span" = some (.ref a_is_span)
  F_is_span : Fun K "is_span" "is_span" s_is_span a_is_span fd_is_span
  B_is_span : Binds K fd_is_span ["thing", "end", "many"] []
  a_is_bound : Addr
  fd_is_bound : FuncData
  m_is_bound : mg "is_bound" = some (.ref a_is_bound)
  F_is_bound : Fun K "is_bound" "is_bound" s_is_bound a_is_bound fd_is_bound
  B_is_bound : Binds K fd_is_bound ["thing", "many"] []
  a_spans_by_goal : Addr
  fd_spans_by_goal : FuncData
  m_spans_by_goal : mg "spans_by_goal" = some (.ref a_spans_by_goal)
  F_spans_by_goal : Fun K "spans_by_goal" "spans_by_goal" s_spans_by_goal a_spans_by_goal fd_spans_by_goal
  B_spans_by_goal : Binds K fd_spans_by_goal ["spans"] []
  a_way_from : Addr
  fd_way_from : FuncData
  m_way_from : mg "way_from" = some (.ref a_way_from)
  F_way_from : Fun K "way_from" "way_from" s_way_from a_way_from fd_way_from
  B_way_from : Binds K fd_way_from ["spans", "known", "mark"] []
  a_are_spans : Addr
  fd_are_spans : FuncData
  m_are_spans : mg "are_spans" = some (.ref a_are_spans)
  F_are_spans : Fun K "are_spans" "are_spans" s_are_spans a_are_spans fd_are_spans
  B_are_spans : Binds K fd_are_spans ["thing", "end", "many"] []
  a_is_book : Addr
  fd_is_book : FuncData
  m_is_book : mg "is_book" = some (.ref a_is_book)
  F_is_book : Fun K "is_book" "is_book" s_is_book a_is_book fd_is_book
  B_is_book : Binds K fd_is_book ["thing"] []
  a_check_book : Addr
  fd_check_book : FuncData
  m_check_book : mg "check_book" = some (.ref a_check_book)
  F_check_book : Fun K "check_book" "check_book" s_check_book a_check_book fd_check_book
  B_check_book : Binds K fd_check_book ["book"] []
  a_read_number : Addr
  fd_read_number : FuncData
  m_read_number : mg "read_number" = some (.ref a_read_number)
  F_read_number : Fun K "read_number" "read_number" s_read_number a_read_number fd_read_number
  B_read_number : Binds K fd_read_number ["word"] []
  a_read_row : Addr
  fd_read_row : FuncData
  m_read_row : mg "read_row" = some (.ref a_read_row)
  F_read_row : Fun K "read_row" "read_row" s_read_row a_read_row fd_read_row
  B_read_row : Binds K fd_read_row ["row"] []
  a_with_row : Addr
  fd_with_row : FuncData
  m_with_row : mg "with_row" = some (.ref a_with_row)
  F_with_row : Fun K "with_row" "with_row" s_with_row a_with_row fd_with_row
  B_with_row : Binds K fd_with_row ["book", "at", "told"] []
  a_show_book : Addr
  fd_show_book : FuncData
  m_show_book : mg "show_book" = some (.ref a_show_book)
  F_show_book : Fun K "show_book" "show_book" s_show_book a_show_book fd_show_book
  B_show_book : Binds K fd_show_book ["book"] []
  a_read_book : Addr
  fd_read_book : FuncData
  m_read_book : mg "read_book" = some (.ref a_read_book)
  F_read_book : Fun K "read_book" "read_book" s_read_book a_read_book fd_read_book
  B_read_book : Binds K fd_read_book ["text"] []
  a__law_pool : Addr
  fd__law_pool : FuncData
  m__law_pool : mg "_law_pool" = some (.ref a__law_pool)
  F__law_pool : Fun K "_law_pool" "_law_pool" s__law_pool a__law_pool fd__law_pool
  B__law_pool : Binds K fd__law_pool ["_law_script", "_law_k"] []
  a__law_take : Addr
  fd__law_take : FuncData
  m__law_take : mg "_law_take" = some (.ref a__law_take)
  F__law_take : Fun K "_law_take" "_law_take" s__law_take a__law_take fd__law_take
  B__law_take : Binds K fd__law_take ["_law_pool_here", "_law_many"] []
  a__law_spans : Addr
  fd__law_spans : FuncData
  m__law_spans : mg "_law_spans" = some (.ref a__law_spans)
  F__law_spans : Fun K "_law_spans" "_law_spans" s__law_spans a__law_spans fd__law_spans
  B__law_spans : Binds K fd__law_spans ["_law_pool_here", "_law_many", "_law_end", "_law_most"] []
  a__law_bounds : Addr
  fd__law_bounds : FuncData
  m__law_bounds : mg "_law_bounds" = some (.ref a__law_bounds)
  F__law_bounds : Fun K "_law_bounds" "_law_bounds" s__law_bounds a__law_bounds fd__law_bounds
  B__law_bounds : Binds K fd__law_bounds ["_law_pool_here", "_law_many", "_law_end", "_law_most"] []
  a__law_near_bounds : Addr
  fd__law_near_bounds : FuncData
  m__law_near_bounds : mg "_law_near_bounds" = some (.ref a__law_near_bounds)
  F__law_near_bounds : Fun K "_law_near_bounds" "_law_near_bounds" s__law_near_bounds a__law_near_bounds fd__law_near_bounds
  B__law_near_bounds : Binds K fd__law_near_bounds ["_law_pool_here", "_law_book_here", "_law_most"] []
  a__law_book : Addr
  fd__law_book : FuncData
  m__law_book : mg "_law_book" = some (.ref a__law_book)
  F__law_book : Fun K "_law_book" "_law_book" s__law_book a__law_book fd__law_book
  B__law_book : Binds K fd__law_book ["_law_pool_here", "_law_most_marks", "_law_most_spans", "_law_most_bounds", "_law_most_end"] []
  a__law_rows : Addr
  fd__law_rows : FuncData
  m__law_rows : mg "_law_rows" = some (.ref a__law_rows)
  F__law_rows : Fun K "_law_rows" "_law_rows" s__law_rows a__law_rows fd__law_rows
  B__law_rows : Binds K fd__law_rows ["_law_book_here"] []
  a__law_reads : Addr
  fd__law_reads : FuncData
  m__law_reads : mg "_law_reads" = some (.ref a__law_reads)
  F__law_reads : Fun K "_law_reads" "_law_reads" s__law_reads a__law_reads fd__law_reads
  B__law_reads : Binds K fd__law_reads ["_law_rows_here", "_law_book_here"] []
  a__law_refused : Addr
  fd__law_refused : FuncData
  m__law_refused : mg "_law_refused" = some (.ref a__law_refused)
  F__law_refused : Fun K "_law_refused" "_law_refused" s__law_refused a__law_refused fd__law_refused
  B__law_refused : Binds K fd__law_refused ["_law_rows_here", "_law_row"] []
  a__law_begins_right : Addr
  fd__law_begins_right : FuncData
  m__law_begins_right : mg "_law_begins_right" = some (.ref a__law_begins_right)
  F__law_begins_right : Fun K "_law_begins_right" "_law_begins_right" s__law_begins_right a__law_begins_right fd__law_begins_right
  B__law_begins_right : Binds K fd__law_begins_right ["_law_book_here"] []
  a__law_turned_right : Addr
  fd__law_turned_right : FuncData
  m__law_turned_right : mg "_law_turned_right" = some (.ref a__law_turned_right)
  F__law_turned_right : Fun K "_law_turned_right" "_law_turned_right" s__law_turned_right a__law_turned_right fd__law_turned_right
  B__law_turned_right : Binds K fd__law_turned_right ["_law_pool_here", "_law_book_here"] []
  a__law_more_right : Addr
  fd__law_more_right : FuncData
  m__law_more_right : mg "_law_more_right" = some (.ref a__law_more_right)
  F__law_more_right : Fun K "_law_more_right" "_law_more_right" s__law_more_right a__law_more_right fd__law_more_right
  B__law_more_right : Binds K fd__law_more_right ["_law_pool_here", "_law_book_here", "_law_other"] []
  a_law : Addr
  fd_law : FuncData
  m_law : mg "law" = some (.ref a_law)
  F_law : Fun K "law" "law" s_law a_law fd_law
  B_law : Binds K fd_law ["_law_script"] []
  n_abs : mg "abs" = none
  n_all : mg "all" = none
  n_bool : mg "bool" = none
  n_divmod : mg "divmod" = none
  n_enumerate : mg "enumerate" = none
  n_int : mg "int" = none
  n_isinstance : mg "isinstance" = none
  n_len : mg "len" = none
  n_max : mg "max" = none
  n_min : mg "min" = none
  n_range : mg "range" = none
  n_str : mg "str" = none
  n_sum : mg "sum" = none
  n_tuple : mg "tuple" = none
  n_zip : mg "zip" = none
  t_MOST_BOUNDS : Tok
  g_MOST_BOUNDS : mg "MOST_BOUNDS" = some (.int 30 t_MOST_BOUNDS)
  t_MOST_END : Tok
  g_MOST_END : mg "MOST_END" = some (.int 60 t_MOST_END)
  t_MOST_MARKS : Tok
  g_MOST_MARKS : mg "MOST_MARKS" = some (.int 10 t_MOST_MARKS)
  t_MOST_SPANS : Tok
  g_MOST_SPANS : mg "MOST_SPANS" = some (.int 4 t_MOST_SPANS)
  t_MOST_W : Tok
  g_MOST_W : mg "MOST_W" = some (.int 60 t_MOST_W)
  a_FORMS : Addr
  m_FORMS : mg "FORMS" = some (.ref a_FORMS)
  W_FORMS : WDKo K w a_FORMS [("hours", 1), ("marks", 1), ("span", 4), ("bound", 3)]
  C_HourError : Addr
  e_HourError : ExcT K mg "HourError" C_HourError
  C_NoBook : Addr
  e_NoBook : ExcT K mg "NoBook" C_NoBook
  C_NoText : Addr
  a_NoText_init : Addr
  fd_NoText_init : FuncData
  F_NoText_init : Fun K "__init__" "NoText.__init__" s_NoText_init a_NoText_init fd_NoText_init
  B_NoText_init : Binds K fd_NoText_init ["self", "row"] []
  e_NoText : OexT K mg "NoText" C_NoText a_NoText_init "row"
  ci_HourError : CIni K mg "HourError" C_HourError
  xf_NoText : XfT K "NoText" "row" C_NoText
  r_NoText : ErT K "NoText" C_NoText
  x_NoText_NoText : PySem.W.exmOne K (.ref C_NoText) (.ref C_NoText) = some true
section
variable {P : Program} {w : World} {K : PySem.W.Frag} {mg : Str → Option Value} {base : Heap}
theorem ok_NoText_init (T : TX K mg w) : FnOk P w K mg base (L2.CX P w) 1 T.a_NoText_init T.fd_NoText_init ["self", "row"] (spXI K "row") := ok_xinit T.F_NoText_init sc_NoText_init (fun cdv A outer s H E => (pss_cons (ps_expr (pe_cinit T.ci_HourError (by rfl) (pa_cons (pv 0) (pa_cons pe_str pa_nil)))) (pss_one (ps_ost (pv 0) (pv 1)))))
theorem ok_is_whole (T : TX K mg w) : FnOk P w K mg base (L2.CX P w) 1 T.a_is_whole T.fd_is_whole ["x"] (spG K mg 1 F_is_whole) := okG (k := 0) b_is_whole T.F_is_whole sc_is_whole rfl rfl rfl (fun cdv A outer s H E hr =>
  (ss_one (ss_ret (se_and (se_isi (T := "int") (by decide) (se_var (pv 0)) (by rfl) T.n_isinstance (by rfl) T.n_int bt_int) (se_one (se_not (se_isi (T := "bool") (by decide) (se_var (pv 0)) (by rfl) T.n_isinstance (by rfl) T.n_bool bt_bool)))))))
theorem ok_is_within (T : TX K mg w) : FnOk P w K mg base (L2.CX P w) 2 T.a_is_within T.fd_is_within ["x", "least", "most"] (spG K mg 3 F_is_within) := okG (k := 1) b_is_within T.F_is_within sc_is_within rfl rfl rfl (fun cdv A outer s H E hr =>
  (ss_one (ss_ret (se_and (se_call (takes_of rfl rfl rfl rfl) (ok_is_whole T) (hr.mono (show 1 ≤ 1 from by decide)) (by rfl) T.m_is_whole T.F_is_whole.kp T.B_is_whole (sa_cons (se_var (pv 0)) sa_nil)) (se_one (se_chain o_le o_le (se_var (pv 1)) (se_var (pv 0)) (se_var (pv 2))))))))
theorem ok_is_span (T : TX K mg w) : FnOk P w K mg base (L2.CX P w) 3 T.a_is_span T.fd_is_span ["thing", "end", "many"] (spG K mg 3 F_is_span) := okG (k := 2) b_is_span T.F_is_span sc_is_span rfl rfl rfl (fun cdv A outer s H E hr =>
  (ss_cons (ss_if (PW.pt (sw_or (st_not (st_tru (se_isi (T := "tuple") (by decide) (se_var (pv 0)) (by rfl) T.n_isinstance (by rfl) T.n_tuple bt_tuple))) (sw_or1 (st_cmp (o_ne hr.units) (se_callB b_len (by rfl) T.n_len bt_len (sa_cons (se_var (pv 0)) sa_nil)) se_int (nomark _))))) (ss_one (ss_ret se_bl)) ss_nil) (ss_cons (ss_asg (ps_asg (se_var (pv 0)) (sg_tup (pg_tup rfl (sgs_cons (sg_name (i := 3) sc_is_span.nd rfl (.inl rfl)) (sgs_cons (sg_name (i := 4) sc_is_span.nd rfl (.inl rfl)) (sgs_cons (sg_name (i := 5) sc_is_span.nd rfl (.inl rfl)) (sgs_cons (sg_name (i := 6) sc_is_span.nd rfl (.inl rfl)) sgs_nil)))))))) (ss_cons (ss_if (PW.pt (sw_or (st_not (st_tru (se_call (takes_of rfl rfl rfl rfl) (ok_is_within T) (hr.mono (show 2 ≤ 2 from by decide)) (by rfl) T.m_is_within T.F_is_within.kp T.B_is_within (sa_cons (se_var (pv 3)) (sa_cons se_int (sa_cons (se_bin o_sub (se_var (pv 2)) se_int) sa_nil)))))) (sw_or (st_not (st_tru (se_call (takes_of rfl rfl rfl rfl) (ok_is_within T) (hr.mono (show 2 ≤ 2 from by decide)) (by rfl) T.m_is_within T.F_is_within.kp T.B_is_within (sa_cons (se_var (pv 4)) (sa_cons se_int (sa_cons (se_bin o_sub (se_var (pv 2)) se_int) sa_nil)))))) (sw_or1 (st_cmp (o_eq hr.units) (se_var (pv 3)) (se_var (pv 4)) (nomark _)))))) (ss_one (ss_ret se_bl)) ss_nil) (ss_one (ss_ret (se_and (se_call (takes_of rfl rfl rfl rfl) (ok_is_within T) (hr.mono (show 2 ≤ 2 from by decide)) (by rfl) T.m_is_within T.F_is_within.kp T.B_is_within (sa_cons (se_var (pv 6)) (sa_cons se_int (sa_cons (se_var (pv 1)) sa_nil)))) (se_one (se_call (takes_of rfl rfl rfl rfl) (ok_is_within T) (hr.mono (show 2 ≤ 2 from by decide)) (by rfl) T.m_is_within T.F_is_within.kp T.B_is_within (sa_cons (se_var (pv 5)) (sa_cons se_int (sa_cons (se_var (pv 6)) sa_nil))))))))))))
theorem ok_is_bound (T : TX K mg w) : FnOk P w K mg base (L2.CX P w) 3 T.a_is_bound T.fd_is_bound ["thing", "many"] (spG K mg 2 F_is_bound) := okG (k := 2) b_is_bound T.F_is_bound sc_is_bound rfl rfl rfl (fun cdv A outer s H E hr =>
  (ss_cons (ss_if (PW.pt (sw_or (st_not (st_tru (se_isi (T := "tuple") (by decide) (se_var (pv 0)) (by rfl) T.n_isinstance (by rfl) T.n_tuple bt_tuple))) (sw_or1 (st_cmp (o_ne hr.units) (se_callB b_len (by rfl) T.n_len bt_len (sa_cons (se_var (pv 0)) sa_nil)) se_int (nomark _))))) (ss_one (ss_ret se_bl)) ss_nil) (ss_cons (ss_asg (ps_asg (se_var (pv 0)) (sg_tup (pg_tup rfl (sgs_cons (sg_name (i := 2) sc_is_bound.nd rfl (.inl rfl)) (sgs_cons (sg_name (i := 3) sc_is_bound.nd rfl (.inl rfl)) (sgs_cons (sg_name (i := 4) sc_is_bound.nd rfl (.inl rfl)) sgs_nil))))))) (ss_cons (ss_if (PW.pt (sw_or (st_not (st_tru (se_call (takes_of rfl rfl rfl rfl) (ok_is_within T) (hr.mono (show 2 ≤ 2 from by decide)) (by rfl) T.m_is_within T.F_is_within.kp T.B_is_within (sa_cons (se_var (pv 2)) (sa_cons se_int (sa_cons (se_bin o_sub (se_var (pv 1)) se_int) sa_nil)))))) (sw_or (st_not (st_tru (se_call (takes_of rfl rfl rfl rfl) (ok_is_within T) (hr.mono (show 2 ≤ 2 from by decide)) (by rfl) T.m_is_within T.F_is_within.kp T.B_is_within (sa_cons (se_var (pv 3)) (sa_cons se_int (sa_cons (se_bin o_sub (se_var (pv 1)) se_int) sa_nil)))))) (sw_or1 (st_cmp (o_eq hr.units) (se_var (pv 2)) (se_var (pv 3)) (nomark _)))))) (ss_one (ss_ret se_bl)) ss_nil) (ss_one (ss_ret (se_call (takes_of rfl rfl rfl rfl) (ok_is_within T) (hr.mono (show 2 ≤ 2 from by decide)) (by rfl) T.m_is_within T.F_is_within.kp T.B_is_within (sa_cons (se_var (pv 4)) (sa_cons (se_bin o_sub se_int (se_c (pe_glob (v := .int 60) (by rfl) T.g_MOST_W ⟨_, rfl⟩) (fun _ _ => .int _))) (sa_cons (se_c (pe_glob (v := .int 60) (by rfl) T.g_MOST_W ⟨_, rfl⟩) (fun _ _ => .int _)) sa_nil))))))))))
theorem ok_spans_by_goal (T : TX K mg w) : FnOk P w K mg base (L2.CX P w) 1 T.a_spans_by_goal T.fd_spans_by_goal ["spans"] (spG K mg 1 F_spans_by_goal) := okG (k := 0) b_spans_by_goal T.F_spans_by_goal sc_spans_by_goal rfl rfl rfl (fun cdv A outer s H E hr =>
  (ss_cons (ss_set (i := 1) sc_spans_by_goal.nd rfl (.inl rfl) se_dicM) (ss_cons (ss_for (passes_of rfl) rfl (si_enum (by rfl) T.n_enumerate (sa_cons (se_var (pv 0)) sa_nil)) (sg_tup (pg_tup rfl (sgs_cons (sg_name (i := 2) sc_spans_by_goal.nd rfl (.inl rfl)) (sgs_cons (sg_name (i := 3) sc_spans_by_goal.nd rfl (.inl rfl)) sgs_nil)))) (ss_one (ss_setD (hu_of hr) (se_var (pv 1)) (se_ix (hu_of hr) (se_var (pv 3)) se_int (fun _ _ => rfl)) (se_var (pv 2))))) (ss_one (ss_ret (se_frz (se_var (pv 1))))))))
theorem ok_way_from (T : TX K mg w) : FnOk P w K mg base (L2.CX P w) 1 T.a_way_from T.fd_way_from ["spans", "known", "mark"] (spG K mg 3 F_way_from) := okG (k := 0) b_way_from T.F_way_from sc_way_from rfl rfl rfl (fun cdv A outer s H E hr =>
  (ss_cons (ss_set (i := 3) sc_way_from.nd rfl (.inl rfl) (se_lstM sa_nil)) (ss_cons (ss_while fuelW (passes_of rfl) (PW.pt (sw_and (st_cmp (o_in hr.units) (se_var (pv 2)) (se_var (pv 1)) (by rfl)) (sw_and1 (st_cmp o_le (se_callB b_len (by rfl) T.n_len bt_len (sa_cons (se_var (pv 3)) sa_nil)) (se_callB b_len (by rfl) T.n_len bt_len (sa_cons (se_var (pv 0)) sa_nil)) (nomark _))))) (ss_cons (ss_expr (se_app (se_var (pv 3)) (se_ix (hu_of hr) (se_var (pv 1)) (se_var (pv 2)) (fun _ _ => rfl)))) (ss_one (ss_set (i := 2) sc_way_from.nd rfl (.inl rfl) (se_ix (hu_of hr) (se_ix (hu_of hr) (se_var (pv 0)) (se_ix (hu_of hr) (se_var (pv 1)) (se_var (pv 2)) (fun _ _ => rfl)) (fun _ _ => rfl)) se_int (fun _ _ => rfl)))))) (ss_one (ss_ret (se_frz (se_var (pv 3))))))))
theorem ok_are_spans (T : TX K mg w) : FnOk P w K mg base (L2.CX P w) 4 T.a_are_spans T.fd_are_spans ["thing", "end", "many"] (spG K mg 3 F_are_spans) := okG (k := 3) b_are_spans T.F_are_spans sc_are_spans rfl rfl rfl (fun cdv A outer s H E hr =>
  (ss_cons (ss_if (PW.pt (sw_or (st_not (st_tru (se_isi (T := "tuple") (by decide) (se_var (pv 0)) (by rfl) T.n_isinstance (by rfl) T.n_tuple bt_tuple))) (sw_or1 (st_cmp o_gt (se_callB b_len (by rfl) T.n_len bt_len (sa_cons (se_var (pv 0)) sa_nil)) (se_c (pe_glob (v := .int 4) (by rfl) T.g_MOST_SPANS ⟨_, rfl⟩) (fun _ _ => .int _)) (nomark _))))) (ss_one (ss_ret se_bl)) ss_nil) (ss_cons (ss_if (st_not (st_tru (se_callB (b_all rfl) (by rfl) T.n_all bt_all (sa_cons (se_lc (pe_lc (own := [("span", 4)]) rfl sc_are_spans.nd (si_seq (se_var (pv 0))) (blkOk_by (own := [("span", 4)]) (N := ["thing", "end", "many", "known", "span", "mark"]) (sc := defScope s_are_spans) (by decide +kernel)) (fun _ _ _ _ _ => (sgw_name (i := 4) (by decide) sc_are_spans.nd rfl (by first | exact .inl rfl | exact .inr rfl))) (fun _ _ _ _ _ => sts_nil) (fun _ _ _ _ _ => (se_call takes0 (ok_is_span T) (hr.mono (show 3 ≤ 3 from by decide)) (by rfl) T.m_is_span T.F_is_span.kp T.B_is_span (sa_cons (se_var (pv 4)) (sa_cons (se_var (pv 1)) (sa_cons (se_var (pv 2)) sa_nil))))))) sa_nil)))) (ss_one (ss_ret se_bl)) ss_nil) (ss_cons (ss_set (i := 3) sc_are_spans.nd rfl (.inr rfl) (se_call (takes_of rfl rfl rfl rfl) (ok_spans_by_goal T) (hr.mono (show 1 ≤ 3 from by decide)) (by rfl) T.m_spans_by_goal T.F_spans_by_goal.kp T.B_spans_by_goal (sa_cons (se_var (pv 0)) sa_nil))) (ss_one (ss_ret (se_and (se_cmp (o_eq hr.units) (se_callB b_len (by rfl) T.n_len bt_len (sa_cons (se_var (pv 3)) sa_nil)) (se_callB b_len (by rfl) T.n_len bt_len (sa_cons (se_var (pv 0)) sa_nil)) (nomark _)) (se_one (se_callB (b_all rfl) (by rfl) T.n_all bt_all (sa_cons (se_lcK (pe_lc (own := [("mark", 5)]) rfl sc_are_spans.nd (pi_lk (pv 3)) (blkOk_by (own := [("mark", 5)]) (N := ["thing", "end", "many", "known", "span", "mark"]) (sc := defScope s_are_spans) (by decide +kernel)) (fun _ _ _ _ _ => (sgw_name (i := 5) (by decide) sc_are_spans.nd rfl (by first | exact .inl rfl | exact .inr rfl))) (fun _ _ _ _ _ => sts_nil) (fun _ _ _ _ _ => (se_cmp o_le (se_callB b_len (by rfl) T.n_len bt_len (sa_cons (se_call takes0 (ok_way_from T) (hr.mono (show 1 ≤ 3 from by decide)) (by rfl) T.m_way_from T.F_way_from.kp T.B_way_from (sa_cons (se_var (pv 0)) (sa_cons (se_var (pv 3)) (sa_cons (se_var (pv 5)) sa_nil)))) sa_nil)) (se_callB b_len (by rfl) T.n_len bt_len (sa_cons (se_var (pv 0)) sa_nil)) (nomark _))))) sa_nil))))))))))
theorem ok_is_book (T : TX K mg w) : FnOk P w K mg base (L2.CX P w) 5 T.a_is_book T.fd_is_book ["thing"] (spG K mg 1 F_is_book) := okG (k := 4) b_is_book T.F_is_book sc_is_book rfl rfl rfl (fun cdv A outer s H E hr =>
  (ss_cons (ss_if (PW.pt (sw_or (st_not (st_tru (se_isi (T := "tuple") (by decide) (se_var (pv 0)) (by rfl) T.n_isinstance (by rfl) T.n_tuple bt_tuple))) (sw_or1 (st_cmp (o_ne hr.units) (se_callB b_len (by rfl) T.n_len bt_len (sa_cons (se_var (pv 0)) sa_nil)) se_int (nomark _))))) (ss_one (ss_ret se_bl)) ss_nil) (ss_cons (ss_asg (ps_asg (se_var (pv 0)) (sg_tup (pg_tup rfl (sgs_cons (sg_name (i := 1) sc_is_book.nd rfl (.inl rfl)) (sgs_cons (sg_name (i := 2) sc_is_book.nd rfl (.inr rfl)) (sgs_cons (sg_name (i := 3) sc_is_book.nd rfl (.inl rfl)) (sgs_cons (sg_name (i := 4) sc_is_book.nd rfl (.inl rfl)) sgs_nil)))))))) (ss_cons (ss_if (PW.pt (sw_or (st_not (st_tru (se_call (takes_of rfl rfl rfl rfl) (ok_is_within T) (hr.mono (show 2 ≤ 4 from by decide)) (by rfl) T.m_is_within T.F_is_within.kp T.B_is_within (sa_cons (se_var (pv 1)) (sa_cons se_int (sa_cons (se_c (pe_glob (v := .int 60) (by rfl) T.g_MOST_END ⟨_, rfl⟩) (fun _ _ => .int _)) sa_nil)))))) (sw_or (st_not (st_tru (se_call (takes_of rfl rfl rfl rfl) (ok_is_within T) (hr.mono (show 2 ≤ 4 from by decide)) (by rfl) T.m_is_within T.F_is_within.kp T.B_is_within (sa_cons (se_var (pv 2)) (sa_cons se_int (sa_cons (se_c (pe_glob (v := .int 10) (by rfl) T.g_MOST_MARKS ⟨_, rfl⟩) (fun _ _ => .int _)) sa_nil)))))) (sw_or1 (st_not (st_tru (se_call (takes_of rfl rfl rfl rfl) (ok_are_spans T) (hr.mono (show 4 ≤ 4 from by decide)) (by rfl) T.m_are_spans T.F_are_spans.kp T.B_are_spans (sa_cons (se_var (pv 3)) (sa_cons (se_var (pv 1)) (sa_cons (se_var (pv 2)) sa_nil)))))))))) (ss_one (ss_ret se_bl)) ss_nil) (ss_cons (ss_if (PW.pt (sw_or (st_not (st_tru (se_isi (T := "tuple") (by decide) (se_var (pv 4)) (by rfl) T.n_isinstance (by rfl) T.n_tuple bt_tuple))) (sw_or1 (st_cmp o_gt (se_callB b_len (by rfl) T.n_len bt_len (sa_cons (se_var (pv 4)) sa_nil)) (se_c (pe_glob (v := .int 30) (by rfl) T.g_MOST_BOUNDS ⟨_, rfl⟩) (fun _ _ => .int _)) (nomark _))))) (ss_one (ss_ret se_bl)) ss_nil) (ss_one (ss_ret (se_callB (b_all rfl) (by rfl) T.n_all bt_all (sa_cons (se_lc (pe_lc (own := [("bound", 5)]) rfl sc_is_book.nd (si_seq (se_var (pv 4))) (blkOk_by (own := [("bound", 5)]) (N := ["thing", "end", "many", "spans", "bounds", "bound"]) (sc := defScope s_is_book) (by decide +kernel)) (fun _ _ _ _ _ => (sgw_name (i := 5) (by decide) sc_is_book.nd rfl (by first | exact .inl rfl | exact .inr rfl))) (fun _ _ _ _ _ => sts_nil) (fun _ _ _ _ _ => (se_call takes0 (ok_is_bound T) (hr.mono (show 3 ≤ 4 from by decide)) (by rfl) T.m_is_bound T.F_is_bound.kp T.B_is_bound (sa_cons (se_var (pv 5)) (sa_cons (se_var (pv 2)) sa_nil)))))) sa_nil)))))))))
theorem ok_check_book (T : TX K mg w) : FnOk P w K mg base (L2.CX P w) 6 T.a_check_book T.fd_check_book ["book"] (spG K mg 1 F_check_book) := okG (k := 5) b_check_book T.F_check_book sc_check_book rfl rfl rfl (fun cdv A outer s H E hr =>
  (ss_one (ss_if (st_not (st_tru (se_call (takes_of rfl rfl rfl rfl) (ok_is_book T) (hr.mono (show 5 ≤ 5 from by decide)) (by rfl) T.m_is_book T.F_is_book.kp T.B_is_book (sa_cons (se_var (pv 0)) sa_nil)))) (ss_one (ss_raiseT T.e_NoBook rfl (takes_of rfl rfl rfl rfl) (by rfl))) ss_nil)))
theorem ok_read_number (T : TX K mg w) : FnOk P w K mg base (L2.CX P w) 1 T.a_read_number T.fd_read_number ["word"] (spG K mg 1 F_read_number) := okG (k := 0) b_read_number T.F_read_number sc_read_number rfl rfl rfl (fun cdv A outer s H E hr =>
  (ss_cons (ss_set (i := 1) sc_read_number.nd rfl (.inl rfl) (se_var (pv 0))) (ss_cons (ss_if (st_cmp (o_eq hr.units) (se_sl (se_var (pv 0)) so_none (so_some se_int)) se_str (nomark _)) (ss_one (ss_set (i := 1) sc_read_number.nd rfl (.inl rfl) (se_sl (se_var (pv 0)) (so_some se_int) so_none))) ss_nil) (ss_cons (ss_if (PW.pt (sw_or (st_cmp (o_eq hr.units) (se_var (pv 1)) se_str (nomark _)) (sw_or1 (st_not (st_tru (se_callB (b_all rfl) (by rfl) T.n_all bt_all (sa_cons (se_lc (pe_lc (own := [("sign", 2)]) rfl sc_read_number.nd (si_str (se_var (pv 1))) (blkOk_by (own := [("sign", 2)]) (N := ["word", "figures", "sign"]) (sc := defScope s_read_number) (by decide +kernel)) (fun _ _ _ _ _ => (sgw_name (i := 2) (by decide) sc_read_number.nd rfl (by first | exact .inl rfl | exact .inr rfl))) (fun _ _ _ _ _ => sts_nil) (fun _ _ _ _ _ => (se_cmp (o_in hr.units) (se_var (pv 2)) se_str (by rfl))))) sa_nil))))))) (ss_one (ss_ret se_non)) ss_nil) (ss_cons (ss_if (PW.pt (sw_and (st_cmp (o_eq hr.units) (se_ix (hu_of hr) (se_var (pv 1)) se_int (fun _ _ => rfl)) se_str (nomark _)) (sw_and1 (st_cmp (o_ne hr.units) (se_var (pv 0)) se_str (nomark _))))) (ss_one (ss_ret se_non)) ss_nil) (ss_one (ss_ret (se_callTy b_intS (by rfl) T.n_int bt_int (sa_cons (se_var (pv 0)) sa_nil)))))))))
theorem ok_read_row (T : TX K mg w) : FnOk P w K mg base (L2.CX P w) 2 T.a_read_row T.fd_read_row ["row"] (spG K mg 1 F_read_row) := okG (k := 1) b_read_row T.F_read_row sc_read_row rfl rfl rfl (fun cdv A outer s H E hr =>
  (ss_cons (ss_set (i := 1) sc_read_row.nd rfl (.inl rfl) (se_sm PySem.F.slot_str_split PySem.F.type_str_split mt_splitD (se_var (pv 0)) se_str)) (ss_cons (ss_set (i := 2) sc_read_row.nd rfl (.inl rfl) (se_callTy b_tuple (by rfl) T.n_tuple bt_tuple (sa_cons (se_lc (pe_lc (own := [("word", 3)]) rfl sc_read_row.nd (si_seq (se_sl (se_var (pv 1)) (so_some se_int) so_none)) (blkOk_by (own := [("word", 3)]) (N := ["row", "words", "numbers", "word"]) (sc := defScope s_read_row) (by decide +kernel)) (fun _ _ _ _ _ => (sgw_name (i := 3) (by decide) sc_read_row.nd rfl (by first | exact .inl rfl | exact .inr rfl))) (fun _ _ _ _ _ => sts_nil) (fun _ _ _ _ _ => (se_call takes0 (ok_read_number T) (hr.mono (show 1 ≤ 1 from by decide)) (by rfl) T.m_read_number T.F_read_number.kp T.B_read_number (sa_cons (se_var (pv 3)) sa_nil))))) sa_nil))) (ss_cons (ss_if (PW.pt (sw_or (st_cmp (o_ne hr.units) (se_wgetO (by rfl) T.m_FORMS T.W_FORMS (se_ix (hu_of hr) (se_var (pv 1)) se_int (fun _ _ => rfl))) (se_callB b_len (by rfl) T.n_len bt_len (sa_cons (se_var (pv 2)) sa_nil)) (nomark _)) (sw_or1 (st_cmp (o_in hr.units) se_non (se_var (pv 2)) (by rfl))))) (ss_one (ss_ret se_non)) ss_nil) (ss_one (ss_ret (se_tup (sa_cons (se_ix (hu_of hr) (se_var (pv 1)) se_int (fun _ _ => rfl)) (sa_cons (se_var (pv 2)) sa_nil)))))))))
theorem ok_with_row (T : TX K mg w) : FnOk P w K mg base (L2.CX P w) 1 T.a_with_row T.fd_with_row ["book", "at", "told"] (spG K mg 3 F_with_row) := okG (k := 0) b_with_row T.F_with_row sc_with_row rfl rfl rfl (fun cdv A outer s H E hr =>
  (ss_cons (ss_asg (ps_asg (se_var (pv 2)) (sg_tup (pg_tup rfl (sgs_cons (sg_name (i := 3) sc_with_row.nd rfl (.inl rfl)) (sgs_cons (sg_name (i := 4) sc_with_row.nd rfl (.inl rfl)) sgs_nil)))))) (ss_cons (ss_if (st_cmp o_lt (se_var (pv 1)) se_int (nomark _)) (ss_cons (ss_if (st_cmp (o_ne hr.units) (se_var (pv 3)) (se_ix (hu_of hr) (se_lst (sa_cons se_str (sa_cons se_str sa_nil))) (se_var (pv 1)) (fun _ _ => rfl)) (nomark _)) (ss_one (ss_ret se_non)) ss_nil) (ss_one (ss_ret (se_ix (hu_of hr) (se_lst (sa_cons (se_tup (sa_cons (se_ix (hu_of hr) (se_var (pv 4)) se_int (fun _ _ => rfl)) (sa_cons se_int (sa_cons (se_tup sa_nil) (sa_cons (se_tup sa_nil) sa_nil))))) (sa_cons (se_tup (sa_cons (se_ix (hu_of hr) (se_var (pv 0)) se_int (fun _ _ => rfl)) (sa_cons (se_ix (hu_of hr) (se_var (pv 4)) se_int (fun _ _ => rfl)) (sa_cons (se_tup sa_nil) (sa_cons (se_tup sa_nil) sa_nil))))) sa_nil))) (se_var (pv 1)) (fun _ _ => rfl))))) ss_nil) (ss_cons (ss_if (PW.pt (sw_and (st_cmp (o_eq hr.units) (se_var (pv 3)) se_str (nomark _)) (sw_and1 (st_cmp (o_eq hr.units) (se_ix (hu_of hr) (se_var (pv 0)) se_int (fun _ _ => rfl)) (se_tup sa_nil) (nomark _))))) (ss_one (ss_ret (se_tup (sa_cons (se_ix (hu_of hr) (se_var (pv 0)) se_int (fun _ _ => rfl)) (sa_cons (se_ix (hu_of hr) (se_var (pv 0)) se_int (fun _ _ => rfl)) (sa_cons (se_bin o_add (se_ix (hu_of hr) (se_var (pv 0)) se_int (fun _ _ => rfl)) (se_tup (sa_cons (se_var (pv 4)) sa_nil))) (sa_cons (se_tup sa_nil) sa_nil))))))) ss_nil) (ss_cons (ss_if (st_cmp (o_eq hr.units) (se_var (pv 3)) se_str (nomark _)) (ss_one (ss_ret (se_tup (sa_cons (se_ix (hu_of hr) (se_var (pv 0)) se_int (fun _ _ => rfl)) (sa_cons (se_ix (hu_of hr) (se_var (pv 0)) se_int (fun _ _ => rfl)) (sa_cons (se_ix (hu_of hr) (se_var (pv 0)) se_int (fun _ _ => rfl)) (sa_cons (se_bin o_add (se_ix (hu_of hr) (se_var (pv 0)) se_int (fun _ _ => rfl)) (se_tup (sa_cons (se_var (pv 4)) sa_nil))) sa_nil))))))) ss_nil) (ss_one (ss_ret se_non)))))))
theorem ok_show_book (T : TX K mg w) : FnOk P w K mg base (L2.CX P w) 7 T.a_show_book T.fd_show_book ["book"] (spG K mg 1 F_show_book) := okG (k := 6) b_show_book T.F_show_book sc_show_book rfl rfl rfl (fun cdv A outer s H E hr =>
  (ss_cons (ss_expr (se_call (takes_of rfl rfl rfl rfl) (ok_check_book T) (hr.mono (show 6 ≤ 6 from by decide)) (by rfl) T.m_check_book T.F_check_book.kp T.B_check_book (sa_cons (se_var (pv 0)) sa_nil))) (ss_cons (ss_set (i := 1) sc_show_book.nd rfl (.inl rfl) (se_lstM (sa_cons (se_js (.cons se_str (.cons (se_fmt (se_ix (hu_of hr) (se_var (pv 0)) se_int (fun _ _ => rfl))) .nil))) (sa_cons (se_js (.cons se_str (.cons (se_fmt (se_ix (hu_of hr) (se_var (pv 0)) se_int (fun _ _ => rfl))) .nil))) sa_nil)))) (ss_cons (ss_for (passes_of rfl) rfl (si_seq (se_ix (hu_of hr) (se_var (pv 0)) se_int (fun _ _ => rfl))) (sg_tup (pg_tup rfl (sgs_cons (sg_name (i := 2) sc_show_book.nd rfl (.inl rfl)) (sgs_cons (sg_name (i := 3) sc_show_book.nd rfl (.inl rfl)) (sgs_cons (sg_name (i := 4) sc_show_book.nd rfl (.inl rfl)) (sgs_cons (sg_name (i := 5) sc_show_book.nd rfl (.inl rfl)) sgs_nil)))))) (ss_one (ss_expr (se_app (se_var (pv 1)) (se_js (.cons se_str (.cons (se_fmt (se_var (pv 2))) (.cons se_str (.cons (se_fmt (se_var (pv 3))) (.cons se_str (.cons (se_fmt (se_var (pv 4))) (.cons se_str (.cons (se_fmt (se_var (pv 5))) .nil))))))))))))) (ss_cons (ss_for (passes_of rfl) rfl (si_seq (se_ix (hu_of hr) (se_var (pv 0)) se_int (fun _ _ => rfl))) (sg_tup (pg_tup rfl (sgs_cons (sg_name (i := 2) sc_show_book.nd rfl (.inl rfl)) (sgs_cons (sg_name (i := 3) sc_show_book.nd rfl (.inl rfl)) (sgs_cons (sg_name (i := 6) sc_show_book.nd rfl (.inl rfl)) sgs_nil))))) (ss_one (ss_expr (se_app (se_var (pv 1)) (se_js (.cons se_str (.cons (se_fmt (se_var (pv 2))) (.cons se_str (.cons (se_fmt (se_var (pv 3))) (.cons se_str (.cons (se_fmt (se_var (pv 6))) .nil))))))))))) (ss_frz 1 (ss_one (ss_ret (se_sm PySem.F.slot_str_join PySem.F.type_str_join mt_joinD se_str (se_var (pv 1)))))))))))
theorem ok_read_book (T : TX K mg w) : FnOk P w K mg base (L2.CX P w) 6 T.a_read_book T.fd_read_book ["text"] (spG K mg 1 F_read_book) := okG (k := 5) b_read_book T.F_read_book sc_read_book rfl rfl rfl (fun cdv A outer s H E hr =>
  (ss_cons (ss_if (st_not (st_tru (se_isi (T := "str") (by decide) (se_var (pv 0)) (by rfl) T.n_isinstance (by rfl) T.n_str bt_str))) (ss_one (ss_raiseF T.e_NoText (ok_NoText_init T) (hr.mono (show 2 ≤ 5 from by decide)) T.B_NoText_init rfl (takes_of rfl rfl rfl rfl) (by rfl) se_int)) ss_nil) (ss_cons (ss_set (i := 1) sc_read_book.nd rfl (.inl rfl) (se_tup (sa_cons se_int (sa_cons se_int (sa_cons (se_tup sa_nil) (sa_cons (se_tup sa_nil) sa_nil)))))) (ss_cons (ss_set (i := 2) sc_read_book.nd rfl (.inl rfl) (se_sm PySem.F.slot_str_split PySem.F.type_str_split mt_splitD (se_var (pv 0)) se_str)) (ss_cons (ss_for (passes_of rfl) rfl (si_enum (by rfl) T.n_enumerate (sa_cons (se_var (pv 2)) sa_nil)) (sg_tup (pg_tup rfl (sgs_cons (sg_name (i := 3) sc_read_book.nd rfl (.inl rfl)) (sgs_cons (sg_name (i := 4) sc_read_book.nd rfl (.inl rfl)) sgs_nil)))) (ss_cons (ss_set (i := 5) sc_read_book.nd rfl (.inl rfl) (se_call (takes_of rfl rfl rfl rfl) (ok_read_row T) (hr.mono (show 2 ≤ 5 from by decide)) (by rfl) T.m_read_row T.F_read_row.kp T.B_read_row (sa_cons (se_var (pv 4)) sa_nil))) (ss_cons (ss_if (st_cmp o_is (se_var (pv 5)) se_non (nomark _)) (ss_one (ss_raiseF T.e_NoText (ok_NoText_init T) (hr.mono (show 2 ≤ 5 from by decide)) T.B_NoText_init rfl (takes_of rfl rfl rfl rfl) (by rfl) (se_var (pv 3)))) ss_nil) (ss_cons (ss_set (i := 1) sc_read_book.nd rfl (.inl rfl) (se_call (takes_of rfl rfl rfl rfl) (ok_with_row T) (hr.mono (show 1 ≤ 5 from by decide)) (by rfl) T.m_with_row T.F_with_row.kp T.B_with_row (sa_cons (se_var (pv 1)) (sa_cons (se_var (pv 3)) (sa_cons (se_var (pv 5)) sa_nil))))) (ss_one (ss_if (PW.pt (sw_or (st_cmp o_is (se_var (pv 1)) se_non (nomark _)) (sw_or1 (st_not (st_tru (se_call (takes_of rfl rfl rfl rfl) (ok_is_book T) (hr.mono (show 5 ≤ 5 from by decide)) (by rfl) T.m_is_book T.F_is_book.kp T.B_is_book (sa_cons (se_var (pv 1)) sa_nil))))))) (ss_one (ss_raiseF T.e_NoText (ok_NoText_init T) (hr.mono (show 2 ≤ 5 from by decide)) T.B_NoText_init rfl (takes_of rfl rfl rfl rfl) (by rfl) (se_var (pv 3)))) ss_nil)))))) (ss_cons (ss_if (st_cmp (o_eq hr.units) (se_callB b_len (by rfl) T.n_len bt_len (sa_cons (se_var (pv 2)) sa_nil)) se_int (nomark _)) (ss_one (ss_raiseF T.e_NoText (ok_NoText_init T) (hr.mono (show 2 ≤ 5 from by decide)) T.B_NoText_init rfl (takes_of rfl rfl rfl rfl) (by rfl) se_int)) ss_nil) (ss_one (ss_ret (se_var (pv 1))))))))))
theorem ok__law_pool (T : TX K mg w) : FnOk P w K mg base (L2.CX P w) 1 T.a__law_pool T.fd__law_pool ["_law_script", "_law_k"] (spG K mg 2 F__law_pool) := okG (k := 0) b__law_pool T.F__law_pool sc__law_pool rfl rfl rfl (fun cdv A outer s H E hr =>
  (ss_cons (ss_set (i := 2) sc__law_pool.nd rfl (.inl rfl) (se_callB (b_sum rfl) (by rfl) T.n_sum bt_sum (sa_cons (se_sl (se_var (pv 0)) (so_some (se_var (pv 1))) (so_some (se_bin o_add (se_var (pv 1)) se_int))) sa_nil))) (ss_cons (ss_if (PW.pt (sw_or (st_cmp o_lt (se_var (pv 2)) se_int (nomark _)) (sw_or1 (st_cmp o_ge (se_var (pv 2)) (se_bin o_pow se_int se_int) (nomark _))))) (ss_one (ss_ret (se_lstM (sa_cons (se_bin o_mod (se_callB b_abs (by rfl) T.n_abs bt_abs (sa_cons (se_var (pv 2)) sa_nil)) (se_bin o_mul (se_bin o_mul (se_bin o_mul (se_bin o_mul (se_bin o_mul (se_bin o_pow se_int se_int) (se_bin o_pow se_int se_int)) (se_bin o_pow se_int se_int)) (se_bin o_pow se_int se_int)) (se_bin o_pow se_int se_int)) (se_bin o_pow se_int se_int))) sa_nil)))) ss_nil) (ss_cons (ss_set (i := 3) sc__law_pool.nd rfl (.inl rfl) (se_bin o_add (se_bin o_add (se_bin o_mul (se_var (pv 2)) se_int) (se_bin o_mul (se_bin o_mul se_int (se_var (pv 1))) (se_var (pv 1)))) se_int)) (ss_cons (ss_set (i := 4) sc__law_pool.nd rfl (.inl rfl) se_int) (ss_cons (ss_for (passes_of rfl) rfl (si_range1 (by rfl) T.n_range (sa_cons se_int sa_nil)) (sg_name (i := 5) sc__law_pool.nd rfl (.inl rfl)) (ss_cons (ss_set (i := 3) sc__law_pool.nd rfl (.inl rfl) (se_bin o_mod (se_bin o_add (se_bin o_add (se_bin o_mul (se_bin o_mod (se_var (pv 3)) se_int) se_int) (se_bin o_mul se_int (se_var (pv 5)))) se_int) se_int)) (ss_one (ss_set (i := 4) sc__law_pool.nd rfl (.inl rfl) (se_bin o_add (se_bin o_mul (se_var (pv 4)) (se_bin o_pow se_int se_int)) (se_bin o_mod (se_bin o_mul (se_var (pv 3)) (se_bin o_add (se_bin o_mod (se_var (pv 3)) se_int) se_int)) se_int)))))) (ss_one (ss_ret (se_lstM (sa_cons (se_var (pv 4)) sa_nil))))))))))
theorem ok__law_take (T : TX K mg w) : FnOk P w K mg base (L2.CX P w) 1 T.a__law_take T.fd__law_take ["_law_pool_here", "_law_many"] (spG K mg 2 F__law_take) := okG (k := 0) b__law_take T.F__law_take sc__law_take rfl rfl rfl (fun cdv A outer s H E hr =>
  (ss_cons (ss_asg (ps_asg (se_callB b_divmod (by rfl) T.n_divmod bt_divmod (sa_cons (se_ix (hu_of hr) (se_var (pv 0)) se_int (fun _ _ => rfl)) (sa_cons (se_var (pv 1)) sa_nil))) (sg_tup (pg_tup rfl (sgs_cons (sg_sub (W := W0) (se_var (pv 0)) se_int setL_ok (pg_sub (se_var (pv 0)) se_int set_list)) (sgs_cons (sg_name (i := 2) sc__law_take.nd rfl (.inl rfl)) sgs_nil)))))) (ss_one (ss_ret (se_var (pv 2))))))
theorem ok__law_spans (T : TX K mg w) : FnOk P w K mg base (L2.CX P w) 2 T.a__law_spans T.fd__law_spans ["_law_pool_here", "_law_many", "_law_end", "_law_most"] (spG K mg 4 F__law_spans) := okG (k := 1) b__law_spans T.F__law_spans sc__law_spans rfl rfl rfl (fun cdv A outer s H E hr =>
  (ss_cons (ss_set (i := 4) sc__law_spans.nd rfl (.inl rfl) (se_lstM sa_nil)) (ss_cons (ss_set (i := 5) sc__law_spans.nd rfl (.inl rfl) se_dicM) (ss_cons (ss_for (passes_of rfl) rfl (si_range1 (by rfl) T.n_range (sa_cons (se_call (takes_of rfl rfl rfl rfl) (ok__law_take T) (hr.mono (show 1 ≤ 1 from by decide)) (by rfl) T.m__law_take T.F__law_take.kp T.B__law_take (sa_cons (se_var (pv 0)) (sa_cons (se_bin o_add (se_var (pv 3)) se_int) sa_nil))) sa_nil)) (sg_name (i := 6) sc__law_spans.nd rfl (.inl rfl)) (ss_cons (ss_par2 (ps_par (i := 7) (j := 8) rfl sc__law_spans.nd rfl rfl (by decide) rfl rfl (sa_cons (se_call (takes_of rfl rfl rfl rfl) (ok__law_take T) (hr.mono (show 1 ≤ 1 from by decide)) (by rfl) T.m__law_take T.F__law_take.kp T.B__law_take (sa_cons (se_var (pv 0)) (sa_cons (se_var (pv 1)) sa_nil))) (sa_cons (se_call (takes_of rfl rfl rfl rfl) (ok__law_take T) (hr.mono (show 1 ≤ 1 from by decide)) (by rfl) T.m__law_take T.F__law_take.kp T.B__law_take (sa_cons (se_var (pv 0)) (sa_cons (se_var (pv 1)) sa_nil))) sa_nil)) (by rfl))) (ss_cons (ss_set (i := 9) sc__law_spans.nd rfl (.inl rfl) (se_bin o_add se_int (se_call (takes_of rfl rfl rfl rfl) (ok__law_take T) (hr.mono (show 1 ≤ 1 from by decide)) (by rfl) T.m__law_take T.F__law_take.kp T.B__law_take (sa_cons (se_var (pv 0)) (sa_cons (se_ix (hu_of hr) (se_lst (sa_cons (se_callB (b_min2 rfl) (by rfl) T.n_min bt_min (sa_cons se_int (sa_cons (se_var (pv 2)) sa_nil))) (sa_cons (se_var (pv 2)) sa_nil))) (se_call (takes_of rfl rfl rfl rfl) (ok__law_take T) (hr.mono (show 1 ≤ 1 from by decide)) (by rfl) T.m__law_take T.F__law_take.kp T.B__law_take (sa_cons (se_var (pv 0)) (sa_cons se_int sa_nil))) (fun _ _ => rfl)) sa_nil))))) (ss_cons (ss_set (i := 10) sc__law_spans.nd rfl (.inl rfl) (se_callB (b_min2 rfl) (by rfl) T.n_min bt_min (sa_cons (se_var (pv 2)) (sa_cons (se_bin o_add (se_var (pv 9)) (se_call (takes_of rfl rfl rfl rfl) (ok__law_take T) (hr.mono (show 1 ≤ 1 from by decide)) (by rfl) T.m__law_take T.F__law_take.kp T.B__law_take (sa_cons (se_var (pv 0)) (sa_cons (se_ix (hu_of hr) (se_lst (sa_cons se_int (sa_cons se_int (sa_cons (se_var (pv 2)) sa_nil)))) (se_call (takes_of rfl rfl rfl rfl) (ok__law_take T) (hr.mono (show 1 ≤ 1 from by decide)) (by rfl) T.m__law_take T.F__law_take.kp T.B__law_take (sa_cons (se_var (pv 0)) (sa_cons se_int sa_nil))) (fun _ _ => rfl)) sa_nil)))) sa_nil)))) (ss_cons (ss_set (i := 11) sc__law_spans.nd rfl (.inl rfl) (se_var (pv 7))) (ss_cons (ss_while fuelW (passes_of rfl) (st_cmp (o_in hr.units) (se_var (pv 11)) (se_var (pv 5)) (by rfl)) (ss_one (ss_set (i := 11) sc__law_spans.nd rfl (.inl rfl) (se_ix (hu_of hr) (se_var (pv 5)) (se_var (pv 11)) (fun _ _ => rfl))))) (ss_one (ss_if (PW.pt (sw_and (st_cmp o_gt (se_var (pv 8)) se_int (nomark _)) (sw_and (st_cmp (o_ne hr.units) (se_var (pv 8)) (se_var (pv 7)) (nomark _)) (sw_and (st_cmp (o_nin hr.units) (se_var (pv 8)) (se_var (pv 5)) (by rfl)) (sw_and1 (st_cmp (o_ne hr.units) (se_var (pv 11)) (se_var (pv 8)) (nomark _))))))) (ss_cons (ss_setD (hu_of hr) (se_var (pv 5)) (se_var (pv 8)) (se_var (pv 7))) (ss_one (ss_expr (se_app (se_var (pv 4)) (se_tup (sa_cons (se_var (pv 7)) (sa_cons (se_var (pv 8)) (sa_cons (se_var (pv 9)) (sa_cons (se_var (pv 10)) sa_nil))))))))) ss_nil)))))))) (ss_frz 4 (ss_one (ss_ret (se_callTy b_tuple (by rfl) T.n_tuple bt_tuple (sa_cons (se_var (pv 4)) sa_nil)))))))))
theorem ok__law_bounds (T : TX K mg w) : FnOk P w K mg base (L2.CX P w) 2 T.a__law_bounds T.fd__law_bounds ["_law_pool_here", "_law_many", "_law_end", "_law_most"] (spG K mg 4 F__law_bounds) := okG (k := 1) b__law_bounds T.F__law_bounds sc__law_bounds rfl rfl rfl (fun cdv A outer s H E hr =>
  (ss_cons (ss_set (i := 4) sc__law_bounds.nd rfl (.inl rfl) (se_lstM sa_nil)) (ss_cons (ss_for (passes_of rfl) rfl (si_range1 (by rfl) T.n_range (sa_cons (se_call (takes_of rfl rfl rfl rfl) (ok__law_take T) (hr.mono (show 1 ≤ 1 from by decide)) (by rfl) T.m__law_take T.F__law_take.kp T.B__law_take (sa_cons (se_var (pv 0)) (sa_cons (se_bin o_add (se_var (pv 3)) se_int) sa_nil))) sa_nil)) (sg_name (i := 5) sc__law_bounds.nd rfl (.inl rfl)) (ss_cons (ss_par2 (ps_par (i := 6) (j := 7) rfl sc__law_bounds.nd rfl rfl (by decide) rfl rfl (sa_cons (se_call (takes_of rfl rfl rfl rfl) (ok__law_take T) (hr.mono (show 1 ≤ 1 from by decide)) (by rfl) T.m__law_take T.F__law_take.kp T.B__law_take (sa_cons (se_var (pv 0)) (sa_cons (se_var (pv 1)) sa_nil))) (sa_cons (se_call (takes_of rfl rfl rfl rfl) (ok__law_take T) (hr.mono (show 1 ≤ 1 from by decide)) (by rfl) T.m__law_take T.F__law_take.kp T.B__law_take (sa_cons (se_var (pv 0)) (sa_cons (se_var (pv 1)) sa_nil))) sa_nil)) (by rfl))) (ss_cons (ss_set (i := 8) sc__law_bounds.nd rfl (.inl rfl) (se_call (takes_of rfl rfl rfl rfl) (ok__law_take T) (hr.mono (show 1 ≤ 1 from by decide)) (by rfl) T.m__law_take T.F__law_take.kp T.B__law_take (sa_cons (se_var (pv 0)) (sa_cons se_int sa_nil)))) (ss_cons (ss_set (i := 9) sc__law_bounds.nd rfl (.inl rfl) (se_call (takes_of rfl rfl rfl rfl) (ok__law_take T) (hr.mono (show 1 ≤ 1 from by decide)) (by rfl) T.m__law_take T.F__law_take.kp T.B__law_take (sa_cons (se_var (pv 0)) (sa_cons (se_bin o_add (se_var (pv 2)) se_int) sa_nil)))) (ss_cons (ss_set (i := 10) sc__law_bounds.nd rfl (.inl rfl) (se_ix (hu_of hr) (se_lst (sa_cons (se_var (pv 8)) (sa_cons (se_bin o_sub se_int (se_var (pv 8))) (sa_cons (se_var (pv 9)) (sa_cons (se_bin o_sub se_int (se_var (pv 9))) sa_nil))))) (se_call (takes_of rfl rfl rfl rfl) (ok__law_take T) (hr.mono (show 1 ≤ 1 from by decide)) (by rfl) T.m__law_take T.F__law_take.kp T.B__law_take (sa_cons (se_var (pv 0)) (sa_cons se_int sa_nil))) (fun _ _ => rfl))) (ss_one (ss_if (st_cmp (o_ne hr.units) (se_var (pv 6)) (se_var (pv 7)) (nomark _)) (ss_one (ss_expr (se_app (se_var (pv 4)) (se_tup (sa_cons (se_var (pv 6)) (sa_cons (se_var (pv 7)) (sa_cons (se_var (pv 10)) sa_nil))))))) ss_nil))))))) (ss_frz 4 (ss_one (ss_ret (se_callTy b_tuple (by rfl) T.n_tuple bt_tuple (sa_cons (se_var (pv 4)) sa_nil))))))))
theorem ok__law_near_bounds (T : TX K mg w) : FnOk P w K mg base (L2.CX P w) 2 T.a__law_near_bounds T.fd__law_near_bounds ["_law_pool_here", "_law_book_here", "_law_most"] (spG K mg 3 F__law_near_bounds) := okG (k := 1) b__law_near_bounds T.F__law_near_bounds sc__law_near_bounds rfl rfl rfl (fun cdv A outer s H E hr =>
  (ss_cons (ss_asg (ps_asg (se_var (pv 1)) (sg_tup (pg_tup rfl (sgs_cons (sg_name (i := 3) sc__law_near_bounds.nd rfl (.inr rfl)) (sgs_cons (sg_name (i := 4) sc__law_near_bounds.nd rfl (.inl rfl)) (sgs_cons (sg_name (i := 5) sc__law_near_bounds.nd rfl (.inl rfl)) (sgs_cons (sg_name (i := 6) sc__law_near_bounds.nd rfl (.inl rfl)) sgs_nil)))))))) (ss_cons (ss_setLcM (ps_setLc (i := 7) (own := [("_law_mark", 18)]) rfl sc__law_near_bounds.nd rfl rfl (sw_true rfl rfl rfl (by decide +kernel)) (si_range1 (by rfl) T.n_range (sa_cons (se_var (pv 4)) sa_nil)) (blkOk_by (own := [("_law_mark", 18)]) (N := ["_law_pool_here", "_law_book_here", "_law_most", "_law_end", "_law_many", "_law_spans_here", "_law_nothing", "_law_hours", "_law_lengths", "_law_turn", "_law_a", "_law_c", "_law_least", "_law_longest", "_law_length", "_law_found", "_law_b", "_law_w", "_law_mark"]) (sc := defScope s__law_near_bounds) (by decide +kernel)) (fun _ _ _ _ _ => (sgw_name (i := 18) (by decide) sc__law_near_bounds.nd rfl (by first | exact .inl rfl | exact .inr rfl))) (fun _ _ _ _ _ => sts_nil) (fun _ _ _ _ _ => (se_call takes0 (ok__law_take T) (hr.mono (show 1 ≤ 1 from by decide)) (by rfl) T.m__law_take T.F__law_take.kp T.B__law_take (sa_cons (se_var (pv 0)) (sa_cons (se_bin o_add (se_var (pv 3)) se_int) sa_nil)))))) (ss_cons (ss_setL (se_var (pv 7)) se_int se_int (ps_asg se_int (pg_sub (se_var (pv 7)) se_int set_list))) (ss_cons (ss_setLc (ps_setLc (i := 8) (own := [("_law_a", 10), ("_law_c", 11), ("_law_least", 12), ("_law_longest", 13)]) rfl sc__law_near_bounds.nd rfl rfl (sw_true rfl rfl rfl (by decide +kernel)) (si_seq (se_var (pv 5))) (blkOk_by (own := [("_law_a", 10), ("_law_c", 11), ("_law_least", 12), ("_law_longest", 13)]) (N := ["_law_pool_here", "_law_book_here", "_law_most", "_law_end", "_law_many", "_law_spans_here", "_law_nothing", "_law_hours", "_law_lengths", "_law_turn", "_law_a", "_law_c", "_law_least", "_law_longest", "_law_length", "_law_found", "_law_b", "_law_w", "_law_mark"]) (sc := defScope s__law_near_bounds) (by decide +kernel)) (fun _ _ _ _ _ => (sgw_tup (pg_tup rfl (sgsw_cons (sgw_name (i := 10) (by decide) sc__law_near_bounds.nd rfl (by first | exact .inl rfl | exact .inr rfl)) (sgsw_cons (sgw_name (i := 11) (by decide) sc__law_near_bounds.nd rfl (by first | exact .inl rfl | exact .inr rfl)) (sgsw_cons (sgw_name (i := 12) (by decide) sc__law_near_bounds.nd rfl (by first | exact .inl rfl | exact .inr rfl)) (sgsw_cons (sgw_name (i := 13) (by decide) sc__law_near_bounds.nd rfl (by first | exact .inl rfl | exact .inr rfl)) sgsw_nil))))))) (fun _ _ _ _ _ => sts_nil) (fun _ _ _ _ _ => (se_bin o_add (se_var (pv 12)) (se_call takes0 (ok__law_take T) (hr.mono (show 1 ≤ 1 from by decide)) (by rfl) T.m__law_take T.F__law_take.kp T.B__law_take (sa_cons (se_var (pv 0)) (sa_cons (se_bin o_add (se_bin o_sub (se_var (pv 13)) (se_var (pv 12))) se_int) sa_nil))))))) (ss_cons (ss_for (passes_of rfl) rfl (si_range1 (by rfl) T.n_range (sa_cons (se_callB b_len (by rfl) T.n_len bt_len (sa_cons (se_var (pv 5)) sa_nil)) sa_nil)) (sg_name (i := 9) sc__law_near_bounds.nd rfl (.inl rfl)) (ss_one (ss_for (passes_of rfl) rfl (si_zip (by rfl) T.n_zip (sa_cons (se_var (pv 5)) (sa_cons (se_var (pv 8)) sa_nil))) (sg_tup (pg_tup rfl (sgs_cons (sg_tup (pg_tup rfl (sgs_cons (sg_name (i := 10) sc__law_near_bounds.nd rfl (.inl rfl)) (sgs_cons (sg_name (i := 11) sc__law_near_bounds.nd rfl (.inl rfl)) (sgs_cons (sg_name (i := 12) sc__law_near_bounds.nd rfl (.inl rfl)) (sgs_cons (sg_name (i := 13) sc__law_near_bounds.nd rfl (.inl rfl)) sgs_nil)))))) (sgs_cons (sg_name (i := 14) sc__law_near_bounds.nd rfl (.inl rfl)) sgs_nil)))) (ss_one (ss_setL (se_var (pv 7)) (se_var (pv 11)) (se_bin o_add (se_ix (hu_of hr) (se_var (pv 7)) (se_var (pv 10)) (fun _ _ => rfl)) (se_var (pv 14))) (ps_asg (se_bin o_add (se_ix (hu_of hr) (se_var (pv 7)) (se_var (pv 10)) (fun _ _ => rfl)) (se_var (pv 14))) (pg_sub (se_var (pv 7)) (se_var (pv 11)) set_list))))))) (ss_frz 7 (ss_cons (ss_set (i := 15) sc__law_near_bounds.nd rfl (.inl rfl) (se_lstM sa_nil)) (ss_cons (ss_for (passes_of rfl) rfl (si_range1 (by rfl) T.n_range (sa_cons (se_call (takes_of rfl rfl rfl rfl) (ok__law_take T) (hr.mono (show 1 ≤ 1 from by decide)) (by rfl) T.m__law_take T.F__law_take.kp T.B__law_take (sa_cons (se_var (pv 0)) (sa_cons (se_bin o_add (se_var (pv 2)) se_int) sa_nil))) sa_nil)) (sg_name (i := 9) sc__law_near_bounds.nd rfl (.inl rfl)) (ss_cons (ss_par2 (ps_par (i := 10) (j := 16) rfl sc__law_near_bounds.nd rfl rfl (by decide) rfl rfl (sa_cons (se_call (takes_of rfl rfl rfl rfl) (ok__law_take T) (hr.mono (show 1 ≤ 1 from by decide)) (by rfl) T.m__law_take T.F__law_take.kp T.B__law_take (sa_cons (se_var (pv 0)) (sa_cons (se_var (pv 4)) sa_nil))) (sa_cons (se_call (takes_of rfl rfl rfl rfl) (ok__law_take T) (hr.mono (show 1 ≤ 1 from by decide)) (by rfl) T.m__law_take T.F__law_take.kp T.B__law_take (sa_cons (se_var (pv 0)) (sa_cons (se_var (pv 4)) sa_nil))) sa_nil)) (by rfl))) (ss_cons (ss_set (i := 17) sc__law_near_bounds.nd rfl (.inl rfl) (se_bin o_add (se_bin o_sub (se_ix (hu_of hr) (se_var (pv 7)) (se_var (pv 16)) (fun _ _ => rfl)) (se_ix (hu_of hr) (se_var (pv 7)) (se_var (pv 10)) (fun _ _ => rfl))) (se_ix (hu_of hr) (se_lst (sa_cons se_int (sa_cons se_int (sa_cons se_int (sa_cons se_int (sa_cons se_int (sa_cons (se_bin o_sub se_int se_int) sa_nil))))))) (se_call (takes_of rfl rfl rfl rfl) (ok__law_take T) (hr.mono (show 1 ≤ 1 from by decide)) (by rfl) T.m__law_take T.F__law_take.kp T.B__law_take (sa_cons (se_var (pv 0)) (sa_cons se_int sa_nil))) (fun _ _ => rfl)))) (ss_one (ss_if (PW.pt (sw_and (st_cmp (o_ne hr.units) (se_var (pv 10)) (se_var (pv 16)) (nomark _)) (sw_and1 (st_cmp o_le (se_callB b_abs (by rfl) T.n_abs bt_abs (sa_cons (se_var (pv 17)) sa_nil)) se_int (nomark _))))) (ss_one (ss_expr (se_app (se_var (pv 15)) (se_tup (sa_cons (se_var (pv 10)) (sa_cons (se_var (pv 16)) (sa_cons (se_var (pv 17)) sa_nil))))))) ss_nil))))) (ss_frz 15 (ss_one (ss_ret (se_callTy b_tuple (by rfl) T.n_tuple bt_tuple (sa_cons (se_var (pv 15)) sa_nil))))))))))))))
theorem ok__law_book (T : TX K mg w) : FnOk P w K mg base (L2.CX P w) 3 T.a__law_book T.fd__law_book ["_law_pool_here", "_law_most_marks", "_law_most_spans", "_law_most_bounds", "_law_most_end"] (spG K mg 5 F__law_book) := okG (k := 2) b__law_book T.F__law_book sc__law_book rfl rfl rfl (fun cdv A outer s H E hr =>
  (ss_cons (ss_set (i := 5) sc__law_book.nd rfl (.inl rfl) (se_call (takes_of rfl rfl rfl rfl) (ok__law_take T) (hr.mono (show 1 ≤ 2 from by decide)) (by rfl) T.m__law_take T.F__law_take.kp T.B__law_take (sa_cons (se_var (pv 0)) (sa_cons se_int sa_nil)))) (ss_cons (ss_set (i := 6) sc__law_book.nd rfl (.inl rfl) (se_bin o_add se_int (se_call (takes_of rfl rfl rfl rfl) (ok__law_take T) (hr.mono (show 1 ≤ 2 from by decide)) (by rfl) T.m__law_take T.F__law_take.kp T.B__law_take (sa_cons (se_var (pv 0)) (sa_cons (se_var (pv 4)) sa_nil))))) (ss_cons (ss_set (i := 7) sc__law_book.nd rfl (.inl rfl) (se_bin o_add se_int (se_call (takes_of rfl rfl rfl rfl) (ok__law_take T) (hr.mono (show 1 ≤ 2 from by decide)) (by rfl) T.m__law_take T.F__law_take.kp T.B__law_take (sa_cons (se_var (pv 0)) (sa_cons (se_var (pv 1)) sa_nil))))) (ss_cons (ss_set (i := 8) sc__law_book.nd rfl (.inl rfl) (se_call (takes_of rfl rfl rfl rfl) (ok__law_spans T) (hr.mono (show 2 ≤ 2 from by decide)) (by rfl) T.m__law_spans T.F__law_spans.kp T.B__law_spans (sa_cons (se_var (pv 0)) (sa_cons (se_var (pv 7)) (sa_cons (se_var (pv 6)) (sa_cons (se_var (pv 2)) sa_nil)))))) (ss_cons (ss_set (i := 9) sc__law_book.nd rfl (.inl rfl) (se_tup (sa_cons (se_var (pv 6)) (sa_cons (se_var (pv 7)) (sa_cons (se_var (pv 8)) (sa_cons (se_tup sa_nil) sa_nil)))))) (ss_cons (ss_if (st_cmp (o_eq hr.units) (se_var (pv 5)) se_int (nomark _)) (ss_one (ss_ret (se_tup (sa_cons (se_var (pv 6)) (sa_cons (se_var (pv 7)) (sa_cons (se_var (pv 8)) (sa_cons (se_call (takes_of rfl rfl rfl rfl) (ok__law_bounds T) (hr.mono (show 2 ≤ 2 from by decide)) (by rfl) T.m__law_bounds T.F__law_bounds.kp T.B__law_bounds (sa_cons (se_var (pv 0)) (sa_cons (se_var (pv 7)) (sa_cons (se_var (pv 6)) (sa_cons (se_var (pv 3)) sa_nil))))) sa_nil))))))) ss_nil) (ss_one (ss_ret (se_tup (sa_cons (se_var (pv 6)) (sa_cons (se_var (pv 7)) (sa_cons (se_var (pv 8)) (sa_cons (se_call (takes_of rfl rfl rfl rfl) (ok__law_near_bounds T) (hr.mono (show 2 ≤ 2 from by decide)) (by rfl) T.m__law_near_bounds T.F__law_near_bounds.kp T.B__law_near_bounds (sa_cons (se_var (pv 0)) (sa_cons (se_var (pv 9)) (sa_cons (se_var (pv 3)) sa_nil)))) sa_nil))))))))))))))
theorem ok__law_rows (T : TX K mg w) : FnOk P w K mg base (L2.CX P w) 1 T.a__law_rows T.fd__law_rows ["_law_book_here"] (spG K mg 1 F__law_rows) := okG (k := 0) b__law_rows T.F__law_rows sc__law_rows rfl rfl rfl (fun cdv A outer s H E hr =>
  (ss_cons (ss_asg (ps_asg (se_var (pv 0)) (sg_tup (pg_tup rfl (sgs_cons (sg_name (i := 1) sc__law_rows.nd rfl (.inl rfl)) (sgs_cons (sg_name (i := 2) sc__law_rows.nd rfl (.inl rfl)) (sgs_cons (sg_name (i := 3) sc__law_rows.nd rfl (.inl rfl)) (sgs_cons (sg_name (i := 4) sc__law_rows.nd rfl (.inl rfl)) sgs_nil)))))))) (ss_cons (ss_set (i := 5) sc__law_rows.nd rfl (.inl rfl) (se_lstM (sa_cons (se_bin o_add se_str (se_callTy b_str (by rfl) T.n_str bt_str (sa_cons (se_var (pv 1)) sa_nil))) (sa_cons (se_bin o_add se_str (se_callTy b_str (by rfl) T.n_str bt_str (sa_cons (se_var (pv 2)) sa_nil))) sa_nil)))) (ss_cons (ss_for (passes_of rfl) rfl (si_seq (se_var (pv 3))) (sg_name (i := 6) sc__law_rows.nd rfl (.inl rfl)) (ss_one (ss_expr (se_app (se_var (pv 5)) (se_bin o_add se_str (se_sm PySem.F.slot_str_join PySem.F.type_str_join mt_joinD se_str (se_lc (pe_lc (own := [("_law_part", 7)]) rfl sc__law_rows.nd (si_seq (se_var (pv 6))) (blkOk_by (own := [("_law_part", 7)]) (N := ["_law_book_here", "_law_end", "_law_many", "_law_spans_here", "_law_bounds_here", "_law_found", "_law_span", "_law_part", "_law_bound"]) (sc := defScope s__law_rows) (by decide +kernel)) (fun _ _ _ _ _ => (sgw_name (i := 7) (by decide) sc__law_rows.nd rfl (by first | exact .inl rfl | exact .inr rfl))) (fun _ _ _ _ _ => sts_nil) (fun _ _ _ _ _ => (se_callTy b_str (by rfl) T.n_str bt_str (sa_cons (se_var (pv 7)) sa_nil))))))))))) (ss_frz 5 (ss_one (ss_ret (se_bin o_add (se_var (pv 5)) (se_lc (pe_lc (own := [("_law_bound", 8)]) rfl sc__law_rows.nd (si_seq (se_var (pv 4))) (blkOk_by (own := [("_law_bound", 8)]) (N := ["_law_book_here", "_law_end", "_law_many", "_law_spans_here", "_law_bounds_here", "_law_found", "_law_span", "_law_part", "_law_bound"]) (sc := defScope s__law_rows) (by decide +kernel)) (fun _ _ _ _ _ => (sgw_name (i := 8) (by decide) sc__law_rows.nd rfl (by first | exact .inl rfl | exact .inr rfl))) (fun _ _ _ _ _ => sts_nil) (fun _ _ _ _ _ => (se_bin o_add se_str (se_sm PySem.F.slot_str_join PySem.F.type_str_join mt_joinD se_str (se_lc (pe_lc (own := [("_law_part", 7)]) rfl sc__law_rows.nd (si_seq (se_var (pv 8))) (blkOk_by (own := [("_law_part", 7)]) (N := ["_law_book_here", "_law_end", "_law_many", "_law_spans_here", "_law_bounds_here", "_law_found", "_law_span", "_law_part", "_law_bound"])  (by first | decide +kernel | with_unfolding_all rfl)) (fun _ _ _ _ _ => (sgw_name (i := 7) (by decide) sc__law_rows.nd rfl (by first | exact .inl rfl | exact .inr rfl))) (fun _ _ _ _ _ => sts_nil) (fun _ _ _ _ _ => (se_callTy b_str (by rfl) T.n_str bt_str (sa_cons (se_var (pv 7)) sa_nil))))))))))))))))))
theorem ok__law_reads (T : TX K mg w) : FnOk P w K mg base (L2.CX P w) 8 T.a__law_reads T.fd__law_reads ["_law_rows_here", "_law_book_here"] (spG K mg 2 F__law_reads) := okG (k := 7) b__law_reads T.F__law_reads sc__law_reads rfl rfl rfl (fun cdv A outer s H E hr =>
  (ss_cons (ss_set (i := 2) sc__law_reads.nd rfl (.inl rfl) (se_sm PySem.F.slot_str_join PySem.F.type_str_join mt_joinD se_str (se_var (pv 0)))) (ss_cons (ss_set (i := 3) sc__law_reads.nd rfl (.inl rfl) (se_call (takes_of rfl rfl rfl rfl) (ok_read_book T) (hr.mono (show 6 ≤ 7 from by decide)) (by rfl) T.m_read_book T.F_read_book.kp T.B_read_book (sa_cons (se_var (pv 2)) sa_nil))) (ss_one (ss_ret (se_and (se_cmp (o_eq hr.units) (se_var (pv 3)) (se_var (pv 1)) (nomark _)) (se_and (se_isi (T := "tuple") (by decide) (se_var (pv 3)) (by rfl) T.n_isinstance (by rfl) T.n_tuple bt_tuple) (se_one (se_cmp (o_eq hr.units) (se_call (takes_of rfl rfl rfl rfl) (ok_show_book T) (hr.mono (show 7 ≤ 7 from by decide)) (by rfl) T.m_show_book T.F_show_book.kp T.B_show_book (sa_cons (se_var (pv 1)) sa_nil)) (se_var (pv 2)) (nomark _))))))))))
theorem ok__law_refused (T : TX K mg w) : FnOk P w K mg base (L2.CX P w) 7 T.a__law_refused T.fd__law_refused ["_law_rows_here", "_law_row"] (spG K mg 2 F__law_refused) := okG (k := 6) b__law_refused T.F__law_refused sc__law_refused rfl rfl rfl (fun cdv A outer s H E hr =>
  (ss_cons (ss_set (i := 2) sc__law_refused.nd rfl (.inl rfl) se_non) (ss_cons (ss_tryE (i := 3) rfl rfl sc__law_refused.nd rfl rfl ⟨rfl, by decide, .inl T.e_NoText.g⟩ rfl (takes_of rfl rfl rfl rfl) (mTab_ok (tab_one T.e_NoText.g T.x_NoText_NoText tab_nil)) (tabN_ok (tabN_one T.e_NoText.g T.r_NoText tabN_nil)) (fun W pn xe tk1 ps1 => (ss_one (ss_expr (se_call tk1 (ok_read_book T) (hr.mono (show 6 ≤ 6 from by decide)) (by rfl) T.m_read_book T.F_read_book.kp T.B_read_book (sa_cons (se_sm PySem.F.slot_str_join PySem.F.type_str_join mt_joinD se_str (se_var (pv 0))) sa_nil))))) (fun a pn => (ss_one (ss_set (i := 2) sc__law_refused.nd rfl (.inl rfl) (se_xf (xfT_cons T.xf_NoText xfT_nil) (se_var (pv 3))))))) (ss_one (ss_ret (se_and (se_cmp (o_eq hr.units) (se_var (pv 2)) (se_var (pv 1)) (nomark _)) (se_one (se_not (se_isi (T := "bool") (by decide) (se_var (pv 2)) (by rfl) T.n_isinstance (by rfl) T.n_bool bt_bool)))))))))
theorem ok__law_begins_right (T : TX K mg w) : FnOk P w K mg base (L2.CX P w) 9 T.a__law_begins_right T.fd__law_begins_right ["_law_book_here"] (spG K mg 1 F__law_begins_right) := okG (k := 8) b__law_begins_right T.F__law_begins_right sc__law_begins_right rfl rfl rfl (fun cdv A outer s H E hr =>
  (ss_cons (ss_asg (ps_asg (se_var (pv 0)) (sg_tup (pg_tup rfl (sgs_cons (sg_name (i := 1) sc__law_begins_right.nd rfl (.inl rfl)) (sgs_cons (sg_name (i := 2) sc__law_begins_right.nd rfl (.inl rfl)) (sgs_cons (sg_name (i := 3) sc__law_begins_right.nd rfl (.inl rfl)) (sgs_cons (sg_name (i := 4) sc__law_begins_right.nd rfl (.inl rfl)) sgs_nil)))))))) (ss_cons (ss_set (i := 5) sc__law_begins_right.nd rfl (.inl rfl) (se_call (takes_of rfl rfl rfl rfl) (ok__law_rows T) (hr.mono (show 1 ≤ 8 from by decide)) (by rfl) T.m__law_rows T.F__law_rows.kp T.B__law_rows (sa_cons (se_var (pv 0)) sa_nil))) (ss_cons (ss_for (passes_of rfl) rfl (si_range2 (by rfl) T.n_range (sa_cons se_int (sa_cons (se_bin o_add (se_callB b_len (by rfl) T.n_len bt_len (sa_cons (se_var (pv 5)) sa_nil)) se_int) sa_nil))) (sg_name (i := 6) sc__law_begins_right.nd rfl (.inl rfl)) (ss_cons (ss_set (i := 7) sc__law_begins_right.nd rfl (.inl rfl) (se_bin o_sub (se_var (pv 6)) se_int)) (ss_cons (ss_set (i := 8) sc__law_begins_right.nd rfl (.inl rfl) (se_tup (sa_cons (se_var (pv 1)) (sa_cons (se_var (pv 2)) (sa_cons (se_sl (se_var (pv 3)) so_none (so_some (se_var (pv 7)))) (sa_cons (se_sl (se_var (pv 4)) so_none (so_some (se_callB (b_max2 rfl) (by rfl) T.n_max bt_max (sa_cons se_int (sa_cons (se_bin o_sub (se_var (pv 7)) (se_callB b_len (by rfl) T.n_len bt_len (sa_cons (se_var (pv 3)) sa_nil))) sa_nil))))) sa_nil)))))) (ss_one (ss_if (st_not (st_tru (se_call (takes_of rfl rfl rfl rfl) (ok__law_reads T) (hr.mono (show 8 ≤ 8 from by decide)) (by rfl) T.m__law_reads T.F__law_reads.kp T.B__law_reads (sa_cons (se_sl (se_var (pv 5)) so_none (so_some (se_var (pv 6)))) (sa_cons (se_var (pv 8)) sa_nil))))) (ss_one (ss_ret se_bl)) ss_nil))))) (ss_one (ss_ret (se_and (se_call (takes_of rfl rfl rfl rfl) (ok__law_refused T) (hr.mono (show 7 ≤ 8 from by decide)) (by rfl) T.m__law_refused T.F__law_refused.kp T.B__law_refused (sa_cons (se_sl (se_var (pv 5)) so_none (so_some se_int)) (sa_cons se_int sa_nil))) (se_one (se_call (takes_of rfl rfl rfl rfl) (ok__law_refused T) (hr.mono (show 7 ≤ 8 from by decide)) (by rfl) T.m__law_refused T.F__law_refused.kp T.B__law_refused (sa_cons (se_lst sa_nil) (sa_cons se_int sa_nil)))))))))))
theorem ok__law_turned_right (T : TX K mg w) : FnOk P w K mg base (L2.CX P w) 9 T.a__law_turned_right T.fd__law_turned_right ["_law_pool_here", "_law_book_here"] (spG K mg 2 F__law_turned_right) := okG (k := 8) b__law_turned_right T.F__law_turned_right sc__law_turned_right rfl rfl rfl (fun cdv A outer s H E hr =>
  (ss_cons (ss_asg (ps_asg (se_var (pv 1)) (sg_tup (pg_tup rfl (sgs_cons (sg_name (i := 2) sc__law_turned_right.nd rfl (.inl rfl)) (sgs_cons (sg_name (i := 3) sc__law_turned_right.nd rfl (.inl rfl)) (sgs_cons (sg_name (i := 4) sc__law_turned_right.nd rfl (.inl rfl)) (sgs_cons (sg_name (i := 5) sc__law_turned_right.nd rfl (.inl rfl)) sgs_nil)))))))) (ss_cons (ss_set (i := 6) sc__law_turned_right.nd rfl (.inl rfl) (se_call (takes_of rfl rfl rfl rfl) (ok__law_take T) (hr.mono (show 1 ≤ 8 from by decide)) (by rfl) T.m__law_take T.F__law_take.kp T.B__law_take (sa_cons (se_var (pv 0)) (sa_cons (se_bin o_add (se_callB b_len (by rfl) T.n_len bt_len (sa_cons (se_var (pv 5)) sa_nil)) se_int) sa_nil)))) (ss_cons (ss_set (i := 7) sc__law_turned_right.nd rfl (.inl rfl) (se_lstM (sa_cons (se_tup (sa_cons (se_var (pv 2)) (sa_cons (se_var (pv 3)) (sa_cons (se_rev (se_var (pv 4))) (sa_cons (se_var (pv 5)) sa_nil))))) sa_nil))) (ss_cons (ss_expr (se_app (se_var (pv 7)) (se_tup (sa_cons (se_var (pv 2)) (sa_cons (se_var (pv 3)) (sa_cons (se_var (pv 4)) (sa_cons (se_rev (se_var (pv 5))) sa_nil))))))) (ss_cons (ss_expr (se_app (se_var (pv 7)) (se_tup (sa_cons (se_var (pv 2)) (sa_cons (se_var (pv 3)) (sa_cons (se_bin o_add (se_sl (se_var (pv 4)) (so_some se_int) so_none) (se_sl (se_var (pv 4)) so_none (so_some se_int))) (sa_cons (se_var (pv 5)) sa_nil))))))) (ss_cons (ss_expr (se_app (se_var (pv 7)) (se_tup (sa_cons (se_var (pv 2)) (sa_cons (se_var (pv 3)) (sa_cons (se_var (pv 4)) (sa_cons (se_bin o_add (se_sl (se_var (pv 5)) (so_some (se_var (pv 6))) so_none) (se_sl (se_var (pv 5)) so_none (so_some (se_var (pv 6))))) sa_nil))))))) (ss_frz 7 (ss_one (ss_ret (se_callB (b_all rfl) (by rfl) T.n_all bt_all (sa_cons (se_lc (pe_lc (own := [("_law_some", 8)]) rfl sc__law_turned_right.nd (si_seq (se_var (pv 7))) (blkOk_by (own := [("_law_some", 8)]) (N := ["_law_pool_here", "_law_book_here", "_law_end", "_law_many", "_law_spans_here", "_law_bounds_here", "_law_at", "_law_turned", "_law_some"]) (sc := defScope s__law_turned_right) (by decide +kernel)) (fun _ _ _ _ _ => (sgw_name (i := 8) (by decide) sc__law_turned_right.nd rfl (by first | exact .inl rfl | exact .inr rfl))) (fun _ _ _ _ _ => sts_nil) (fun _ _ _ _ _ => (se_call takes0 (ok__law_reads T) (hr.mono (show 8 ≤ 8 from by decide)) (by rfl) T.m__law_reads T.F__law_reads.kp T.B__law_reads (sa_cons (se_call takes0 (ok__law_rows T) (hr.mono (show 1 ≤ 8 from by decide)) (by rfl) T.m__law_rows T.F__law_rows.kp T.B__law_rows (sa_cons (se_var (pv 8)) sa_nil)) (sa_cons (se_var (pv 8)) sa_nil)))))) sa_nil))))))))))))
theorem ok__law_more_right (T : TX K mg w) : FnOk P w K mg base (L2.CX P w) 9 T.a__law_more_right T.fd__law_more_right ["_law_pool_here", "_law_book_here", "_law_other"] (spG K mg 3 F__law_more_right) := okG (k := 8) b__law_more_right T.F__law_more_right sc__law_more_right rfl rfl rfl (fun cdv A outer s H E hr =>
  (ss_cons (ss_asg (ps_asg (se_var (pv 1)) (sg_tup (pg_tup rfl (sgs_cons (sg_name (i := 3) sc__law_more_right.nd rfl (.inl rfl)) (sgs_cons (sg_name (i := 4) sc__law_more_right.nd rfl (.inl rfl)) (sgs_cons (sg_name (i := 5) sc__law_more_right.nd rfl (.inl rfl)) (sgs_cons (sg_name (i := 6) sc__law_more_right.nd rfl (.inl rfl)) sgs_nil)))))))) (ss_cons (ss_set (i := 7) sc__law_more_right.nd rfl (.inl rfl) (se_call (takes_of rfl rfl rfl rfl) (ok__law_rows T) (hr.mono (show 1 ≤ 8 from by decide)) (by rfl) T.m__law_rows T.F__law_rows.kp T.B__law_rows (sa_cons (se_var (pv 1)) sa_nil))) (ss_cons (ss_set (i := 8) sc__law_more_right.nd rfl (.inl rfl) (se_call (takes_of rfl rfl rfl rfl) (ok__law_rows T) (hr.mono (show 1 ≤ 8 from by decide)) (by rfl) T.m__law_rows T.F__law_rows.kp T.B__law_rows (sa_cons (se_var (pv 2)) sa_nil))) (ss_cons (ss_if (st_not (st_tru (se_call (takes_of rfl rfl rfl rfl) (ok__law_refused T) (hr.mono (show 7 ≤ 8 from by decide)) (by rfl) T.m__law_refused T.F__law_refused.kp T.B__law_refused (sa_cons (se_bin o_add (se_var (pv 7)) (se_var (pv 8))) (sa_cons (se_callB b_len (by rfl) T.n_len bt_len (sa_cons (se_var (pv 7)) sa_nil)) sa_nil))))) (ss_one (ss_ret se_bl)) ss_nil) (ss_cons (ss_if (st_not (st_tru (se_call (takes_of rfl rfl rfl rfl) (ok__law_refused T) (hr.mono (show 7 ≤ 8 from by decide)) (by rfl) T.m__law_refused T.F__law_refused.kp T.B__law_refused (sa_cons (se_bin o_add (se_var (pv 7)) (se_lst (sa_cons (se_ix (hu_of hr) (se_var (pv 8)) se_int (fun _ _ => rfl)) sa_nil))) (sa_cons (se_callB b_len (by rfl) T.n_len bt_len (sa_cons (se_var (pv 7)) sa_nil)) sa_nil))))) (ss_one (ss_ret se_bl)) ss_nil) (ss_cons (ss_if (st_cmp (o_ne hr.units) (se_var (pv 5)) (se_tup sa_nil) (nomark _)) (ss_cons (ss_set (i := 9) sc__law_more_right.nd rfl (.inl rfl) (se_call (takes_of rfl rfl rfl rfl) (ok__law_take T) (hr.mono (show 1 ≤ 8 from by decide)) (by rfl) T.m__law_take T.F__law_take.kp T.B__law_take (sa_cons (se_var (pv 0)) (sa_cons (se_callB b_len (by rfl) T.n_len bt_len (sa_cons (se_var (pv 5)) sa_nil)) sa_nil)))) (ss_cons (ss_set (i := 10) sc__law_more_right.nd rfl (.inl rfl) (se_bin o_add se_int (se_callB b_len (by rfl) T.n_len bt_len (sa_cons (se_var (pv 5)) sa_nil)))) (ss_cons (ss_set (i := 11) sc__law_more_right.nd rfl (.inl rfl) (se_bin o_add (se_bin o_add (se_sl (se_var (pv 7)) so_none (so_some (se_var (pv 10)))) (se_lst (sa_cons (se_ix (hu_of hr) (se_var (pv 7)) (se_bin o_add se_int (se_var (pv 9))) (fun _ _ => rfl)) sa_nil))) (se_sl (se_var (pv 7)) (so_some (se_var (pv 10))) so_none))) (ss_cons (ss_if (st_not (st_tru (se_call (takes_of rfl rfl rfl rfl) (ok__law_refused T) (hr.mono (show 7 ≤ 8 from by decide)) (by rfl) T.m__law_refused T.F__law_refused.kp T.B__law_refused (sa_cons (se_var (pv 11)) (sa_cons (se_var (pv 10)) sa_nil))))) (ss_one (ss_ret se_bl)) ss_nil) (ss_one (ss_if (st_not (st_tru (se_call (takes_of rfl rfl rfl rfl) (ok__law_refused T) (hr.mono (show 7 ≤ 8 from by decide)) (by rfl) T.m__law_refused T.F__law_refused.kp T.B__law_refused (sa_cons (se_bin o_add (se_var (pv 7)) (se_lst (sa_cons (se_ix (hu_of hr) (se_var (pv 7)) (se_bin o_add se_int (se_var (pv 9))) (fun _ _ => rfl)) sa_nil))) (sa_cons (se_callB b_len (by rfl) T.n_len bt_len (sa_cons (se_var (pv 7)) sa_nil)) sa_nil))))) (ss_one (ss_ret se_bl)) ss_nil)))))) ss_nil) (ss_cons (ss_if (st_cmp (o_ne hr.units) (se_var (pv 6)) (se_tup sa_nil) (nomark _)) (ss_cons (ss_set (i := 9) sc__law_more_right.nd rfl (.inl rfl) (se_call (takes_of rfl rfl rfl rfl) (ok__law_take T) (hr.mono (show 1 ≤ 8 from by decide)) (by rfl) T.m__law_take T.F__law_take.kp T.B__law_take (sa_cons (se_var (pv 0)) (sa_cons (se_callB b_len (by rfl) T.n_len bt_len (sa_cons (se_var (pv 6)) sa_nil)) sa_nil)))) (ss_cons (ss_set (i := 12) sc__law_more_right.nd rfl (.inl rfl) (se_bin o_add (se_var (pv 6)) (se_bin o_repTD (se_tup (sa_cons (se_ix (hu_of hr) (se_var (pv 6)) (se_var (pv 9)) (fun _ _ => rfl)) sa_nil)) (se_bin o_sub se_int (se_callB b_len (by rfl) T.n_len bt_len (sa_cons (se_var (pv 6)) sa_nil)))))) (ss_cons (ss_set (i := 13) sc__law_more_right.nd rfl (.inl rfl) (se_tup (sa_cons (se_var (pv 3)) (sa_cons (se_var (pv 4)) (sa_cons (se_var (pv 5)) (sa_cons (se_var (pv 12)) sa_nil)))))) (ss_cons (ss_if (st_not (st_tru (se_call (takes_of rfl rfl rfl rfl) (ok__law_reads T) (hr.mono (show 8 ≤ 8 from by decide)) (by rfl) T.m__law_reads T.F__law_reads.kp T.B__law_reads (sa_cons (se_call (takes_of rfl rfl rfl rfl) (ok__law_rows T) (hr.mono (show 1 ≤ 8 from by decide)) (by rfl) T.m__law_rows T.F__law_rows.kp T.B__law_rows (sa_cons (se_var (pv 13)) sa_nil)) (sa_cons (se_var (pv 13)) sa_nil))))) (ss_one (ss_ret se_bl)) ss_nil) (ss_cons (ss_set (i := 13) sc__law_more_right.nd rfl (.inl rfl) (se_tup (sa_cons (se_var (pv 3)) (sa_cons (se_var (pv 4)) (sa_cons (se_var (pv 5)) (sa_cons (se_bin o_add (se_var (pv 12)) (se_sl (se_var (pv 12)) so_none (so_some se_int))) sa_nil)))))) (ss_cons (ss_if (st_not (st_tru (se_call (takes_of rfl rfl rfl rfl) (ok__law_refused T) (hr.mono (show 7 ≤ 8 from by decide)) (by rfl) T.m__law_refused T.F__law_refused.kp T.B__law_refused (sa_cons (se_call (takes_of rfl rfl rfl rfl) (ok__law_rows T) (hr.mono (show 1 ≤ 8 from by decide)) (by rfl) T.m__law_rows T.F__law_rows.kp T.B__law_rows (sa_cons (se_var (pv 13)) sa_nil)) (sa_cons (se_bin o_add se_int (se_callB b_len (by rfl) T.n_len bt_len (sa_cons (se_var (pv 5)) sa_nil))) sa_nil))))) (ss_one (ss_ret se_bl)) ss_nil) (ss_cons (ss_set (i := 13) sc__law_more_right.nd rfl (.inl rfl) (se_tup (sa_cons (se_var (pv 3)) (sa_cons (se_var (pv 4)) (sa_cons (se_sl (se_var (pv 5)) so_none (so_some (se_neg se_int))) (sa_cons (se_var (pv 6)) sa_nil)))))) (ss_cons (ss_set (i := 14) sc__law_more_right.nd rfl (.inl rfl) (se_bin o_add (se_call (takes_of rfl rfl rfl rfl) (ok__law_rows T) (hr.mono (show 1 ≤ 8 from by decide)) (by rfl) T.m__law_rows T.F__law_rows.kp T.B__law_rows (sa_cons (se_var (pv 13)) sa_nil)) (se_lst (sa_cons (se_ix (hu_of hr) (se_var (pv 7)) (se_bin o_add se_int (se_callB b_len (by rfl) T.n_len bt_len (sa_cons (se_var (pv 5)) sa_nil))) (fun _ _ => rfl)) sa_nil)))) (ss_one (ss_if (PW.pt (sw_and (st_cmp (o_ne hr.units) (se_var (pv 5)) (se_tup sa_nil) (nomark _)) (sw_and1 (st_not (st_tru (se_call (takes_of rfl rfl rfl rfl) (ok__law_refused T) (hr.mono (show 7 ≤ 8 from by decide)) (by rfl) T.m__law_refused T.F__law_refused.kp T.B__law_refused (sa_cons (se_var (pv 14)) (sa_cons (se_bin o_sub (se_callB b_len (by rfl) T.n_len bt_len (sa_cons (se_var (pv 7)) sa_nil)) se_int) sa_nil)))))))) (ss_one (ss_ret se_bl)) ss_nil)))))))))) ss_nil) (ss_one (ss_ret se_bl))))))))))
theorem ok_law (T : TX K mg w) : FnOk P w K mg base (L2.CX P w) 10 T.a_law T.fd_law ["_law_script"] (spG K mg 1 F_law) := okG (k := 9) b_law T.F_law sc_law rfl rfl rfl (fun cdv A outer s H E hr =>
  (ss_cons (ss_for (passes_of rfl) rfl (si_range3 (by rfl) T.n_range (sa_cons se_int (sa_cons (se_callB (b_max2 rfl) (by rfl) T.n_max bt_max (sa_cons se_int (sa_cons (se_callB (b_min2 rfl) (by rfl) T.n_min bt_min (sa_cons (se_callB b_len (by rfl) T.n_len bt_len (sa_cons (se_var (pv 0)) sa_nil)) (sa_cons se_int sa_nil))) sa_nil))) (sa_cons se_int sa_nil)))) (sg_name (i := 1) sc_law.nd rfl (.inl rfl)) (ss_cons (ss_set (i := 2) sc_law.nd rfl (.inl rfl) (se_call (takes_of rfl rfl rfl rfl) (ok__law_pool T) (hr.mono (show 1 ≤ 9 from by decide)) (by rfl) T.m__law_pool T.F__law_pool.kp T.B__law_pool (sa_cons (se_var (pv 0)) (sa_cons (se_var (pv 1)) sa_nil)))) (ss_cons (ss_set (i := 3) sc_law.nd rfl (.inl rfl) (se_ix (hu_of hr) (se_lst (sa_cons (se_tup (sa_cons se_int (sa_cons se_int (sa_cons se_int (sa_cons se_int sa_nil))))) (sa_cons (se_tup (sa_cons se_int (sa_cons se_int (sa_cons se_int (sa_cons se_int sa_nil))))) sa_nil))) (se_bin o_fdiv (se_call (takes_of rfl rfl rfl rfl) (ok__law_take T) (hr.mono (show 1 ≤ 9 from by decide)) (by rfl) T.m__law_take T.F__law_take.kp T.B__law_take (sa_cons (se_var (pv 2)) (sa_cons se_int sa_nil))) se_int) (fun _ _ => rfl))) (ss_cons (ss_set (i := 4) sc_law.nd rfl (.inl rfl) (se_call (takes_of rfl rfl rfl rfl) (ok__law_book T) (hr.mono (show 3 ≤ 9 from by decide)) (by rfl) T.m__law_book T.F__law_book.kp T.B__law_book (sa_cons (se_var (pv 2)) (sa_cons (se_ix (hu_of hr) (se_var (pv 3)) se_int (fun _ _ => rfl)) (sa_cons (se_ix (hu_of hr) (se_var (pv 3)) se_int (fun _ _ => rfl)) (sa_cons (se_ix (hu_of hr) (se_var (pv 3)) se_int (fun _ _ => rfl)) (sa_cons (se_ix (hu_of hr) (se_var (pv 3)) se_int (fun _ _ => rfl)) sa_nil))))))) (ss_cons (ss_set (i := 5) sc_law.nd rfl (.inl rfl) (se_call (takes_of rfl rfl rfl rfl) (ok__law_book T) (hr.mono (show 3 ≤ 9 from by decide)) (by rfl) T.m__law_book T.F__law_book.kp T.B__law_book (sa_cons (se_call (takes_of rfl rfl rfl rfl) (ok__law_pool T) (hr.mono (show 1 ≤ 9 from by decide)) (by rfl) T.m__law_pool T.F__law_pool.kp T.B__law_pool (sa_cons (se_var (pv 0)) (sa_cons (se_bin o_add (se_var (pv 1)) se_int) sa_nil))) (sa_cons se_int (sa_cons se_int (sa_cons se_int (sa_cons se_int sa_nil))))))) (ss_cons (ss_if (PW.pt (sw_or (st_not (st_tru (se_call (takes_of rfl rfl rfl rfl) (ok__law_begins_right T) (hr.mono (show 9 ≤ 9 from by decide)) (by rfl) T.m__law_begins_right T.F__law_begins_right.kp T.B__law_begins_right (sa_cons (se_var (pv 4)) sa_nil)))) (sw_or1 (st_not (st_tru (se_call (takes_of rfl rfl rfl rfl) (ok__law_turned_right T) (hr.mono (show 9 ≤ 9 from by decide)) (by rfl) T.m__law_turned_right T.F__law_turned_right.kp T.B__law_turned_right (sa_cons (se_var (pv 2)) (sa_cons (se_var (pv 4)) sa_nil)))))))) (ss_one (ss_ret se_bl)) ss_nil) (ss_cons (ss_if (st_not (st_tru (se_call (takes_of rfl rfl rfl rfl) (ok__law_more_right T) (hr.mono (show 9 ≤ 9 from by decide)) (by rfl) T.m__law_more_right T.F__law_more_right.kp T.B__law_more_right (sa_cons (se_var (pv 2)) (sa_cons (se_var (pv 4)) (sa_cons (se_var (pv 5)) sa_nil)))))) (ss_one (ss_ret se_bl)) ss_nil) (ss_one (ss_if (st_not (st_tru (se_call (takes_of rfl rfl rfl rfl) (ok__law_reads T) (hr.mono (show 8 ≤ 9 from by decide)) (by rfl) T.m__law_reads T.F__law_reads.kp T.B__law_reads (sa_cons (se_call (takes_of rfl rfl rfl rfl) (ok__law_rows T) (hr.mono (show 1 ≤ 9 from by decide)) (by rfl) T.m__law_rows T.F__law_rows.kp T.B__law_rows (sa_cons (se_var (pv 4)) sa_nil)) (sa_cons (se_var (pv 4)) sa_nil))))) (ss_one (ss_ret se_bl)) ss_nil))))))))) (ss_one (ss_ret se_bl))))
end
theorem all_mk {l : PySem.W.OpenLaw} {w : World} {K : PySem.W.Frag} {h : Heap} {mg : Str → Option Value} {fa : Addr} (hlaw : LawTrue F_law) (X : K.In h) (G : h.Ns mainGlobals mg) (hfa : mg "law" = some (.ref fa))
    {a_is_whole : Addr} {od_is_whole an_is_whole : Option Addr} {sl_is_whole : Array (Option Value)} {oc_is_whole kV_is_whole dc_is_whole pm_is_whole cd_is_whole ct_is_whole : Value}
    (q_is_whole : PySem.W.nsIn K mainGlobals "is_whole" = some (some (.ref a_is_whole))) (l_is_whole : K.lookup a_is_whole = some ⟨oc_is_whole, od_is_whole, .func (PySem.W.fnOf "is_whole" "is_whole" (defArgs s_is_whole) (defBody s_is_whole) (defScope s_is_whole) .none kV_is_whole dc_is_whole pm_is_whole an_is_whole cd_is_whole ct_is_whole), sl_is_whole⟩) (c_is_whole : PySem.W.codeIn K cd_is_whole "is_whole" = true) (k_is_whole : PySem.W.keepIn K (.ref a_is_whole) = true)
    {a_is_within : Addr} {od_is_within an_is_within : Option Addr} {sl_is_within : Array (Option Value)} {oc_is_within kV_is_within dc_is_within pm_is_within cd_is_within ct_is_within : Value}
    (q_is_within : PySem.W.nsIn K mainGlobals "is_within" = some (some (.ref a_is_within))) (l_is_within : K.lookup a_is_within = some ⟨oc_is_within, od_is_within, .func (PySem.W.fnOf "is_within" "is_within" (defArgs s_is_within) (defBody s_is_within) (defScope s_is_within) .none kV_is_within dc_is_within pm_is_within an_is_within cd_is_within ct_is_within), sl_is_within⟩) (c_is_within : PySem.W.codeIn K cd_is_within "is_within" = true) (k_is_within : PySem.W.keepIn K (.ref a_is_within) = true)
    {a_is_span : Addr} {od_is_span an_is_span : Option Addr} {sl_is_span : Array (Option Value)} {oc_is_span kV_is_span dc_is_span pm_is_span cd_is_span ct_is_span : Value}
    (q_is_span : PySem.W.nsIn K mainGlobals "is_span" = some (some (.ref a_is_span))) (l_is_span : K.lookup a_is_span = some ⟨oc_is_span, od_is_span, .func (PySem.W.fnOf "is_span" "is_span" (defArgs s_is_span) (defBody s_is_span) (defScope s_is_span) .none kV_is_span dc_is_span pm_is_span an_is_span cd_is_span ct_is_span), sl_is_span⟩) (c_is_span : PySem.W.codeIn K cd_is_span "is_span" = true) (k_is_span : PySem.W.keepIn K (.ref a_is_span) = true)
    {a_is_bound : Addr} {od_is_bound an_is_bound : Option Addr} {sl_is_bound : Array (Option Value)} {oc_is_bound kV_is_bound dc_is_bound pm_is_bound cd_is_bound ct_is_bound : Value}
    (q_is_bound : PySem.W.nsIn K mainGlobals "is_bound" = some (some (.ref a_is_bound))) (l_is_bound : K.lookup a_is_bound = some ⟨oc_is_bound, od_is_bound, .func (PySem.W.fnOf "is_bound" "is_bound" (defArgs s_is_bound) (defBody s_is_bound) (defScope s_is_bound) .none kV_is_bound dc_is_bound pm_is_bound an_is_bound cd_is_bound ct_is_bound), sl_is_bound⟩) (c_is_bound : PySem.W.codeIn K cd_is_bound "is_bound" = true) (k_is_bound : PySem.W.keepIn K (.ref a_is_bound) = true)
    {a_spans_by_goal : Addr} {od_spans_by_goal an_spans_by_goal : Option Addr} {sl_spans_by_goal : Array (Option Value)} {oc_spans_by_goal kV_spans_by_goal dc_spans_by_goal pm_spans_by_goal cd_spans_by_goal ct_spans_by_goal : Value}
    (q_spans_by_goal : PySem.W.nsIn K mainGlobals "spans_by_goal" = some (some (.ref a_spans_by_goal))) (l_spans_by_goal : K.lookup a_spans_by_goal = some ⟨oc_spans_by_goal, od_spans_by_goal, .func (PySem.W.fnOf "spans_by_goal" "spans_by_goal" (defArgs s_spans_by_goal) (defBody s_spans_by_goal) (defScope s_spans_by_goal) .none kV_spans_by_goal dc_spans_by_goal pm_spans_by_goal an_spans_by_goal cd_spans_by_goal ct_spans_by_goal), sl_spans_by_goal⟩) (c_spans_by_goal : PySem.W.codeIn K cd_spans_by_goal "spans_by_goal" = true) (k_spans_by_goal : PySem.W.keepIn K (.ref a_spans_by_goal) = true)
    {a_way_from : Addr} {od_way_from an_way_from : Option Addr} {sl_way_from : Array (Option Value)} {oc_way_from kV_way_from dc_way_from pm_way_from cd_way_from ct_way_from : Value}
    (q_way_from : PySem.W.nsIn K mainGlobals "way_from" = some (some (.ref a_way_from))) (l_way_from : K.lookup a_way_from = some ⟨oc_way_from, od_way_from, .func (PySem.W.fnOf "way_from" "way_from" (defArgs s_way_from) (defBody s_way_from) (defScope s_way_from) .none kV_way_from dc_way_from pm_way_from an_way_from cd_way_from ct_way_from), sl_way_from⟩) (c_way_from : PySem.W.codeIn K cd_way_from "way_from" = true) (k_way_from : PySem.W.keepIn K (.ref a_way_from) = true)
    {a_are_spans : Addr} {od_are_spans an_are_spans : Option Addr} {sl_are_spans : Array (Option Value)} {oc_are_spans kV_are_spans dc_are_spans pm_are_spans cd_are_spans ct_are_spans : Value}
    (q_are_spans : PySem.W.nsIn K mainGlobals "are_spans" = some (some (.ref a_are_spans))) (l_are_spans : K.lookup a_are_spans = some ⟨oc_are_spans, od_are_spans, .func (PySem.W.fnOf "are_spans" "are_spans" (defArgs s_are_spans) (defBody s_are_spans) (defScope s_are_spans) .none kV_are_spans dc_are_spans pm_are_spans an_are_spans cd_are_spans ct_are_spans), sl_are_spans⟩) (c_are_spans : PySem.W.codeIn K cd_are_spans "are_spans" = true) (k_are_spans : PySem.W.keepIn K (.ref a_are_spans) = true)
    {a_is_book : Addr} {od_is_book an_is_book : Option Addr} {sl_is_book : Array (Option Value)} {oc_is_book kV_is_book dc_is_book pm_is_book cd_is_book ct_is_book : Value}
    (q_is_book : PySem.W.nsIn K mainGlobals "is_book" = some (some (.ref a_is_book))) (l_is_book : K.lookup a_is_book = some ⟨oc_is_book, od_is_book, .func (PySem.W.fnOf "is_book" "is_book" (defArgs s_is_book) (defBody s_is_book) (defScope s_is_book) .none kV_is_book dc_is_book pm_is_book an_is_book cd_is_book ct_is_book), sl_is_book⟩) (c_is_book : PySem.W.codeIn K cd_is_book "is_book" = true) (k_is_book : PySem.W.keepIn K (.ref a_is_book) = true)
    {a_check_book : Addr} {od_check_book an_check_book : Option Addr} {sl_check_book : Array (Option Value)} {oc_check_book kV_check_book dc_check_book pm_check_book cd_check_book ct_check_book : Value}
    (q_check_book : PySem.W.nsIn K mainGlobals "check_book" = some (some (.ref a_check_book))) (l_check_book : K.lookup a_check_book = some ⟨oc_check_book, od_check_book, .func (PySem.W.fnOf "check_book" "check_book" (defArgs s_check_book) (defBody s_check_book) (defScope s_check_book) .none kV_check_book dc_check_book pm_check_book an_check_book cd_check_book ct_check_book), sl_check_book⟩) (c_check_book : PySem.W.codeIn K cd_check_book "check_book" = true) (k_check_book : PySem.W.keepIn K (.ref a_check_book) = true)
    {a_read_number : Addr} {od_read_number an_read_number : Option Addr} {sl_read_number : Array (Option Value)} {oc_read_number kV_read_number dc_read_number pm_read_number cd_read_number ct_read_number : Value}
    (q_read_number : PySem.W.nsIn K mainGlobals "read_number" = some (some (.ref a_read_number))) (l_read_number : K.lookup a_read_number = some ⟨oc_read_number, od_read_number, .func (PySem.W.fnOf "read_number" "read_number" (defArgs s_read_number) (defBody s_read_number) (defScope s_read_number) .none kV_read_number dc_read_number pm_read_number an_read_number cd_read_number ct_read_number), sl_read_number⟩) (c_read_number : PySem.W.codeIn K cd_read_number "read_number" = true) (k_read_number : PySem.W.keepIn K (.ref a_read_number) = true)
    {a_read_row : Addr} {od_read_row an_read_row : Option Addr} {sl_read_row : Array (Option Value)} {oc_read_row kV_read_row dc_read_row pm_read_row cd_read_row ct_read_row : Value}
    (q_read_row : PySem.W.nsIn K mainGlobals "read_row" = some (some (.ref a_read_row))) (l_read_row : K.lookup a_read_row = some ⟨oc_read_row, od_read_row, .func (PySem.W.fnOf "read_row" "read_row" (defArgs s_read_row) (defBody s_read_row) (defScope s_read_row) .none kV_read_row dc_read_row pm_read_row an_read_row cd_read_row ct_read_row), sl_read_row⟩) (c_read_row : PySem.W.codeIn K cd_read_row "read_row" = true) (k_read_row : PySem.W.keepIn K (.ref a_read_row) = true)
    {a_with_row : Addr} {od_with_row an_with_row : Option Addr} {sl_with_row : Array (Option Value)} {oc_with_row kV_with_row dc_with_row pm_with_row cd_with_row ct_with_row : Value}
    (q_with_row : PySem.W.nsIn K mainGlobals "with_row" = some (some (.ref a_with_row))) (l_with_row : K.lookup a_with_row = some ⟨oc_with_row, od_with_row, .func (PySem.W.fnOf "with_row" "with_row" (defArgs s_with_row) (defBody s_with_row) (defScope s_with_row) .none kV_with_row dc_with_row pm_with_row an_with_row cd_with_row ct_with_row), sl_with_row⟩) (c_with_row : PySem.W.codeIn K cd_with_row "with_row" = true) (k_with_row : PySem.W.keepIn K (.ref a_with_row) = true)
    {a_show_book : Addr} {od_show_book an_show_book : Option Addr} {sl_show_book : Array (Option Value)} {oc_show_book kV_show_book dc_show_book pm_show_book cd_show_book ct_show_book : Value}
    (q_show_book : PySem.W.nsIn K mainGlobals "show_book" = some (some (.ref a_show_book))) (l_show_book : K.lookup a_show_book = some ⟨oc_show_book, od_show_book, .func (PySem.W.fnOf "show_book" "show_book" (defArgs s_show_book) (defBody s_show_book) (defScope s_show_book) .none kV_show_book dc_show_book pm_show_book an_show_book cd_show_book ct_show_book), sl_show_book⟩) (c_show_book : PySem.W.codeIn K cd_show_book "show_book" = true) (k_show_book : PySem.W.keepIn K (.ref a_show_book) = true)
    {a_read_book : Addr} {od_read_book an_read_book : Option Addr} {sl_read_book : Array (Option Value)} {oc_read_book kV_read_book dc_read_book pm_read_book cd_read_book ct_read_book : Value}
    (q_read_book : PySem.W.nsIn K mainGlobals "read_book" = some (some (.ref a_read_book))) (l_read_book : K.lookup a_read_book = some ⟨oc_read_book, od_read_book, .func (PySem.W.fnOf "read_book" "read_book" (defArgs s_read_book) (defBody s_read_book) (defScope s_read_book) .none kV_read_book dc_read_book pm_read_book an_read_book cd_read_book ct_read_book), sl_read_book⟩) (c_read_book : PySem.W.codeIn K cd_read_book "read_book" = true) (k_read_book : PySem.W.keepIn K (.ref a_read_book) = true)
    {a__law_pool : Addr} {od__law_pool an__law_pool : Option Addr} {sl__law_pool : Array (Option Value)} {oc__law_pool kV__law_pool dc__law_pool pm__law_pool cd__law_pool ct__law_pool : Value}
    (q__law_pool : PySem.W.nsIn K mainGlobals "_law_pool" = some (some (.ref a__law_pool))) (l__law_pool : K.lookup a__law_pool = some ⟨oc__law_pool, od__law_pool, .func (PySem.W.fnOf "_law_pool" "_law_pool" (defArgs s__law_pool) (defBody s__law_pool) (defScope s__law_pool) .none kV__law_pool dc__law_pool pm__law_pool an__law_pool cd__law_pool ct__law_pool), sl__law_pool⟩) (c__law_pool : PySem.W.codeIn K cd__law_pool "_law_pool" = true) (k__law_pool : PySem.W.keepIn K (.ref a__law_pool) = true)
    {a__law_take : Addr} {od__law_take an__law_take : Option Addr} {sl__law_take : Array (Option Value)} {oc__law_take kV__law_take dc__law_take pm__law_take cd__law_take ct__law_take : Value}
    (q__law_take : PySem.W.nsIn K mainGlobals "_law_take" = some (some (.ref a__law_take))) (l__law_take : K.lookup a__law_take = some ⟨oc__law_take, od__law_take, .func (PySem.W.fnOf "_law_take" "_law_take" (defArgs s__law_take) (defBody s__law_take) (defScope s__law_take) .none kV__law_take dc__law_take pm__law_take an__law_take cd__law_take ct__law_take), sl__law_take⟩) (c__law_take : PySem.W.codeIn K cd__law_take "_law_take" = true) (k__law_take : PySem.W.keepIn K (.ref a__law_take) = true)
    {a__law_spans : Addr} {od__law_spans an__law_spans : Option Addr} {sl__law_spans : Array (Option Value)} {oc__law_spans kV__law_spans dc__law_spans pm__law_spans cd__law_spans ct__law_spans : Value}
    (q__law_spans : PySem.W.nsIn K mainGlobals "_law_spans" = some (some (.ref a__law_spans))) (l__law_spans : K.lookup a__law_spans = some ⟨oc__law_spans, od__law_spans, .func (PySem.W.fnOf "_law_spans" "_law_spans" (defArgs s__law_spans) (defBody s__law_spans) (defScope s__law_spans) .none kV__law_spans dc__law_spans pm__law_spans an__law_spans cd__law_spans ct__law_spans), sl__law_spans⟩) (c__law_spans : PySem.W.codeIn K cd__law_spans "_law_spans" = true) (k__law_spans : PySem.W.keepIn K (.ref a__law_spans) = true)
    {a__law_bounds : Addr} {od__law_bounds an__law_bounds : Option Addr} {sl__law_bounds : Array (Option Value)} {oc__law_bounds kV__law_bounds dc__law_bounds pm__law_bounds cd__law_bounds ct__law_bounds : Value}
    (q__law_bounds : PySem.W.nsIn K mainGlobals "_law_bounds" = some (some (.ref a__law_bounds))) (l__law_bounds : K.lookup a__law_bounds = some ⟨oc__law_bounds, od__law_bounds, .func (PySem.W.fnOf "_law_bounds" "_law_bounds" (defArgs s__law_bounds) (defBody s__law_bounds) (defScope s__law_bounds) .none kV__law_bounds dc__law_bounds pm__law_bounds an__law_bounds cd__law_bounds ct__law_bounds), sl__law_bounds⟩) (c__law_bounds : PySem.W.codeIn K cd__law_bounds "_law_bounds" = true) (k__law_bounds : PySem.W.keepIn K (.ref a__law_bounds) = true)
    {a__law_near_bounds : Addr} {od__law_near_bounds an__law_near_bounds : Option Addr} {sl__law_near_bounds : Array (Option Value)} {oc__law_near_bounds kV__law_near_bounds dc__law_near_bounds pm__law_near_bounds cd__law_near_bounds ct__law_near_bounds : Value}
    (q__law_near_bounds : PySem.W.nsIn K mainGlobals "_law_near_bounds" = some (some (.ref a__law_near_bounds))) (l__law_near_bounds : K.lookup a__law_near_bounds = some ⟨oc__law_near_bounds, od__law_near_bounds, .func (PySem.W.fnOf "_law_near_bounds" "_law_near_bounds" (defArgs s__law_near_bounds) (defBody s__law_near_bounds) (defScope s__law_near_bounds) .none kV__law_near_bounds dc__law_near_bounds pm__law_near_bounds an__law_near_bounds cd__law_near_bounds ct__law_near_bounds), sl__law_near_bounds⟩) (c__law_near_bounds : PySem.W.codeIn K cd__law_near_bounds "_law_near_bounds" = true) (k__law_near_bounds : PySem.W.keepIn K (.ref a__law_near_bounds) = true)
    {a__law_book : Addr} {od__law_book an__law_book : Option Addr} {sl__law_book : Array (Option Value)} {oc__law_book kV__law_book dc__law_book pm__law_book cd__law_book ct__law_book : Value}
    (q__law_book : PySem.W.nsIn K mainGlobals "_law_book" = some (some (.ref a__law_book))) (l__law_book : K.lookup a__law_book = some ⟨oc__law_book, od__law_book, .func (PySem.W.fnOf "_law_book" "_law_book" (defArgs s__law_book) (defBody s__law_book) (defScope s__law_book) .none kV__law_book dc__law_book pm__law_book an__law_book cd__law_book ct__law_book), sl__law_book⟩) (c__law_book : PySem.W.codeIn K cd__law_book "_law_book" = true) (k__law_book : PySem.W.keepIn K (.ref a__law_book) = true)
    {a__law_rows : Addr} {od__law_rows an__law_rows : Option Addr} {sl__law_rows : Array (Option Value)} {oc__law_rows kV__law_rows dc__law_rows pm__law_rows cd__law_rows ct__law_rows : Value}
    (q__law_rows : PySem.W.nsIn K mainGlobals "_law_rows" = some (some (.ref a__law_rows))) (l__law_rows : K.lookup a__law_rows = some ⟨oc__law_rows, od__law_rows, .func (PySem.W.fnOf "_law_rows" "_law_rows" (defArgs s__law_rows) (defBody s__law_rows) (defScope s__law_rows) .none kV__law_rows dc__law_rows pm__law_rows an__law_rows cd__law_rows ct__law_rows), sl__law_rows⟩) (c__law_rows : PySem.W.codeIn K cd__law_rows "_law_rows" = true) (k__law_rows : PySem.W.keepIn K (.ref a__law_rows) = true)
    {a__law_reads : Addr} {od__law_reads an__law_reads : Option Addr} {sl__law_reads : Array (Option Value)} {oc__law_reads kV__law_reads dc__law_reads pm__law_reads cd__law_reads ct__law_reads : Value}
    (q__law_reads : PySem.W.nsIn K mainGlobals "_law_reads" = some (some (.ref a__law_reads))) (l__law_reads : K.lookup a__law_reads = some ⟨oc__law_reads, od__law_reads, .func (PySem.W.fnOf "_law_reads" "_law_reads" (defArgs s__law_reads) (defBody s__law_reads) (defScope s__law_reads) .none kV__law_reads dc__law_reads pm__law_reads an__law_reads cd__law_reads ct__law_reads), sl__law_reads⟩) (c__law_reads : PySem.W.codeIn K cd__law_reads "_law_reads" = true) (k__law_reads : PySem.W.keepIn K (.ref a__law_reads) = true)
    {a__law_refused : Addr} {od__law_refused an__law_refused : Option Addr} {sl__law_refused : Array (Option Value)} {oc__law_refused kV__law_refused dc__law_refused pm__law_refused cd__law_refused ct__law_refused : Value}
    (q__law_refused : PySem.W.nsIn K mainGlobals "_law_refused" = some (some (.ref a__law_refused))) (l__law_refused : K.lookup a__law_refused = some ⟨oc__law_refused, od__law_refused, .func (PySem.W.fnOf "_law_refused" "_law_refused" (defArgs s__law_refused) (defBody s__law_refused) (defScope s__law_refused) .none kV__law_refused dc__law_refused pm__law_refused an__law_refused cd__law_refused ct__law_refused), sl__law_refused⟩) (c__law_refused : PySem.W.codeIn K cd__law_refused "_law_refused" = true) (k__law_refused : PySem.W.keepIn K (.ref a__law_refused) = true)
    {a__law_begins_right : Addr} {od__law_begins_right an__law_begins_right : Option Addr} {sl__law_begins_right : Array (Option Value)} {oc__law_begins_right kV__law_begins_right dc__law_begins_right pm__law_begins_right cd__law_begins_right ct__law_begins_right : Value}
    (q__law_begins_right : PySem.W.nsIn K mainGlobals "_law_begins_right" = some (some (.ref a__law_begins_right))) (l__law_begins_right : K.lookup a__law_begins_right = some ⟨oc__law_begins_right, od__law_begins_right, .func (PySem.W.fnOf "_law_begins_right" "_law_begins_right" (defArgs s__law_begins_right) (defBody s__law_begins_right) (defScope s__law_begins_right) .none kV__law_begins_right dc__law_begins_right pm__law_begins_right an__law_begins_right cd__law_begins_right ct__law_begins_right), sl__law_begins_right⟩) (c__law_begins_right : PySem.W.codeIn K cd__law_begins_right "_law_begins_right" = true) (k__law_begins_right : PySem.W.keepIn K (.ref a__law_begins_right) = true)
    {a__law_turned_right : Addr} {od__law_turned_right an__law_turned_right : Option Addr} {sl__law_turned_right : Array (Option Value)} {oc__law_turned_right kV__law_turned_right dc__law_turned_right pm__law_turned_right cd__law_turned_right ct__law_turned_right : Value}
    (q__law_turned_right : PySem.W.nsIn K mainGlobals "_law_turned_right" = some (some (.ref a__law_turned_right))) (l__law_turned_right : K.lookup a__law_turned_right = some ⟨oc__law_turned_right, od__law_turned_right, .func (PySem.W.fnOf "_law_turned_right" "_law_turned_right" (defArgs s__law_turned_right) (defBody s__law_turned_right) (defScope s__law_turned_right) .none kV__law_turned_right dc__law_turned_right pm__law_turned_right an__law_turned_right cd__law_turned_right ct__law_turned_right), sl__law_turned_right⟩) (c__law_turned_right : PySem.W.codeIn K cd__law_turned_right "_law_turned_right" = true) (k__law_turned_right : PySem.W.keepIn K (.ref a__law_turned_right) = true)
    {a__law_more_right : Addr} {od__law_more_right an__law_more_right : Option Addr} {sl__law_more_right : Array (Option Value)} {oc__law_more_right kV__law_more_right dc__law_more_right pm__law_more_right cd__law_more_right ct__law_more_right : Value}
    (q__law_more_right : PySem.W.nsIn K mainGlobals "_law_more_right" = some (some (.ref a__law_more_right))) (l__law_more_right : K.lookup a__law_more_right = some ⟨oc__law_more_right, od__law_more_right, .func (PySem.W.fnOf "_law_more_right" "_law_more_right" (defArgs s__law_more_right) (defBody s__law_more_right) (defScope s__law_more_right) .none kV__law_more_right dc__law_more_right pm__law_more_right an__law_more_right cd__law_more_right ct__law_more_right), sl__law_more_right⟩) (c__law_more_right : PySem.W.codeIn K cd__law_more_right "_law_more_right" = true) (k__law_more_right : PySem.W.keepIn K (.ref a__law_more_right) = true)
    {a_law : Addr} {od_law an_law : Option Addr} {sl_law : Array (Option Value)} {oc_law kV_law dc_law pm_law cd_law ct_law : Value}
    (q_law : PySem.W.nsIn K mainGlobals "law" = some (some (.ref a_law))) (l_law : K.lookup a_law = some ⟨oc_law, od_law, .func (PySem.W.fnOf "law" "law" (defArgs s_law) (defBody s_law) (defScope s_law) .none kV_law dc_law pm_law an_law cd_law ct_law), sl_law⟩) (c_law : PySem.W.codeIn K cd_law "law" = true) (k_law : PySem.W.keepIn K (.ref a_law) = true)
    (n_abs : PySem.W.nsIn K mainGlobals "abs" = some none)
    (n_all : PySem.W.nsIn K mainGlobals "all" = some none)
    (n_bool : PySem.W.nsIn K mainGlobals "bool" = some none)
    (n_divmod : PySem.W.nsIn K mainGlobals "divmod" = some none)
    (n_enumerate : PySem.W.nsIn K mainGlobals "enumerate" = some none)
    (n_int : PySem.W.nsIn K mainGlobals "int" = some none)
    (n_isinstance : PySem.W.nsIn K mainGlobals "isinstance" = some none)
    (n_len : PySem.W.nsIn K mainGlobals "len" = some none)
    (n_max : PySem.W.nsIn K mainGlobals "max" = some none)
    (n_min : PySem.W.nsIn K mainGlobals "min" = some none)
    (n_range : PySem.W.nsIn K mainGlobals "range" = some none)
    (n_str : PySem.W.nsIn K mainGlobals "str" = some none)
    (n_sum : PySem.W.nsIn K mainGlobals "sum" = some none)
    (n_tuple : PySem.W.nsIn K mainGlobals "tuple" = some none)
    (n_zip : PySem.W.nsIn K mainGlobals "zip" = some none)
    {t_MOST_BOUNDS : Tok} (g_MOST_BOUNDS : PySem.W.nsIn K mainGlobals "MOST_BOUNDS" = some (some (.int 30 t_MOST_BOUNDS)))
    {t_MOST_END : Tok} (g_MOST_END : PySem.W.nsIn K mainGlobals "MOST_END" = some (some (.int 60 t_MOST_END)))
    {t_MOST_MARKS : Tok} (g_MOST_MARKS : PySem.W.nsIn K mainGlobals "MOST_MARKS" = some (some (.int 10 t_MOST_MARKS)))
    {t_MOST_SPANS : Tok} (g_MOST_SPANS : PySem.W.nsIn K mainGlobals "MOST_SPANS" = some (some (.int 4 t_MOST_SPANS)))
    {t_MOST_W : Tok} (g_MOST_W : PySem.W.nsIn K mainGlobals "MOST_W" = some (some (.int 60 t_MOST_W)))
    {a_FORMS : Addr} {es_FORMS : Array DictEntry} {n_FORMS : Nat} (q_FORMS : PySem.W.nsIn K mainGlobals "FORMS" = some (some (.ref a_FORMS))) (l_FORMS : K.lookup a_FORMS = some ⟨.type "dict", none, .dict es_FORMS n_FORMS, #[]⟩) (y_FORMS : PySem.W.KeysLit w.params es_FORMS.toList) (o_FORMS : (a_FORMS == sysModules) = false)
    (z_FORMS : keysAre es_FORMS.toList ["hours", "marks", "span", "bound"] = true)
    {t_FORMS_0 : Tok} (v_FORMS_0 : PySem.W.nsIn K a_FORMS "hours" = some (some (.int 1 t_FORMS_0)))
    {t_FORMS_1 : Tok} (v_FORMS_1 : PySem.W.nsIn K a_FORMS "marks" = some (some (.int 1 t_FORMS_1)))
    {t_FORMS_2 : Tok} (v_FORMS_2 : PySem.W.nsIn K a_FORMS "span" = some (some (.int 4 t_FORMS_2)))
    {t_FORMS_3 : Tok} (v_FORMS_3 : PySem.W.nsIn K a_FORMS "bound" = some (some (.int 3 t_FORMS_3)))
    {C_HourError : Addr} (eg_HourError : PySem.W.nsIn K mainGlobals "HourError" = some (some (.ref C_HourError))) (ex_HourError : PySem.W.excIn K C_HourError [.type "ValueError", .type "Exception", .type "BaseException", .type "object"] "ValueError.__new__" = true) (ek_HourError : PySem.W.keepIn K (.ref C_HourError) = true) (eb_HourError : PySem.W.subIn K (.ref C_HourError) (.type "BaseException") = some true) (et_HourError : PySem.W.typeIn K (.ref C_HourError) = some (.type "type")) (ei_HourError : PySem.W.isClsIn K C_HourError = true)
    {C_NoBook : Addr} (eg_NoBook : PySem.W.nsIn K mainGlobals "NoBook" = some (some (.ref C_NoBook))) (ex_NoBook : PySem.W.excIn K C_NoBook [.type "ValueError", .type "Exception", .type "BaseException", .type "object"] "ValueError.__new__" = true) (ek_NoBook : PySem.W.keepIn K (.ref C_NoBook) = true) (eb_NoBook : PySem.W.subIn K (.ref C_NoBook) (.type "BaseException") = some true) (et_NoBook : PySem.W.typeIn K (.ref C_NoBook) = some (.type "type")) (ei_NoBook : PySem.W.isClsIn K C_NoBook = true)
    {C_NoText N_NoText : Addr} {nm_NoText qn_NoText : Str} {bs_NoText bm_NoText u_NoText : List Value} {sn_NoText : List Str} {ab_NoText : Bool} {co_NoText : Option Bool} {dd_NoText : Option Addr} {k0_NoText k1_NoText k2_NoText k3_NoText k5_NoText : Option Value}
    (eg_NoText : PySem.W.nsIn K mainGlobals "NoText" = some (some (.ref C_NoText))) (lx_NoText : K.lookup C_NoText = some (PySem.excClassObj nm_NoText qn_NoText C_NoText N_NoText bs_NoText bm_NoText true sn_NoText u_NoText ab_NoText co_NoText dd_NoText k0_NoText k1_NoText k2_NoText k3_NoText k5_NoText "ValueError.__new__")) (rv_NoText : PySem.HandSPX.refsVE bm_NoText = true)
    (xs_NoText : PySem.W.findIn K (.ref C_NoText) "__setattr__" = some (some (.builtin "object.__setattr__"))) (ek_NoText : PySem.W.keepIn K (.ref C_NoText) = true) (eb_NoText : PySem.W.subIn K (.ref C_NoText) (.type "BaseException") = some true) (et_NoText : PySem.W.typeIn K (.ref C_NoText) = some (.type "type")) (xn_NoText : PySem.W.findIn K (.ref C_NoText) "row" = some none)
    (ei_NoText : PySem.W.isClsIn K C_NoText = true)
    {a_NoText_init : Addr} {od_NoText_init an_NoText_init : Option Addr} {sl_NoText_init : Array (Option Value)} {oc_NoText_init kV_NoText_init dc_NoText_init pm_NoText_init cd_NoText_init ct_NoText_init : Value}
    (q_NoText_init : PySem.W.findIn K (.ref C_NoText) "__init__" = some (some (.ref a_NoText_init))) (xt_NoText_init : PySem.W.typeIn K (.ref a_NoText_init) = some (.type "function")) (l_NoText_init : K.lookup a_NoText_init = some ⟨oc_NoText_init, od_NoText_init, .func (PySem.W.fnOf "__init__" "NoText.__init__" (defArgs s_NoText_init) (defBody s_NoText_init) (defScope s_NoText_init) .none kV_NoText_init dc_NoText_init pm_NoText_init an_NoText_init cd_NoText_init ct_NoText_init), sl_NoText_init⟩) (c_NoText_init : PySem.W.codeIn K cd_NoText_init "NoText.__init__" = true) (k_NoText_init : PySem.W.keepIn K (.ref a_NoText_init) = true)
    (cr_HourError : PySem.W.readsIn K C_HourError (.type "type") = true) (cg_HourError : PySem.W.specialIn K (.ref C_HourError) "__getattribute__" = some (some (.builtin "type.__getattribute__"))) (cv_HourError : PySem.W.findCls K (.ref C_HourError) (.type "type") "__init__" = some (.val (.builtin "ValueError.__init__")))
    (sx_NoText_NoText : PySem.W.subIn K (.ref C_NoText) (.ref C_NoText) = some true)
    (er_hn : PySem.W.specialIn K (.builtin "object.__class__") "__get__" = some (some (.builtin "getset_descriptor.__get__"))) (er_ht : PySem.W.takesIn K (.builtin "object.__class__") = some true)
    (hg_NoText : PySem.W.findIn K (.ref C_NoText) "__getattribute__" = some (some (.builtin "BaseException.__getattribute__")))
    (hk_NoText : PySem.W.findIn K (.ref C_NoText) "__getattr__" = some none)
    (hd_NoText : PySem.W.hasDictIn K C_NoText = true)
    (ha_NoText : PySem.W.findIn K (.ref C_NoText) "__class__" = some (some (.builtin "object.__class__")))
    (hm_NoText : PySem.W.mroIn K C_NoText (.type "object") = some true) :
    ∃ fd : FuncData, (∀ (s : Shared) (u : Value), BindsTo s fd ⟨[u], []⟩ [("_law_script", u)]) ∧ ∀ base : Heap, K.In base → base.Ns mainGlobals mg → FnOk l.prog w K mg base (L2.CX l.prog w) 10 fa fd ["_law_script"] (spLaw K) := by
  have e := hfa.symm.trans (PySem.W.mg_of X G q_law)
  have e2 : a_law = fa := by cases e; rfl
  subst e2
  let T : TX K mg w := { a_is_whole := a_is_whole, fd_is_whole := _, m_is_whole := PySem.W.mg_of X G q_is_whole, F_is_whole := fun_mk (st := s_is_whole) l_is_whole c_is_whole k_is_whole, B_is_whole := (fun_mk (st := s_is_whole) l_is_whole c_is_whole k_is_whole).binds (ps := ["x"]) (fun _ _ _ _ _ _ us hl => @lenP1 _ (fun us => bindArgs _ { pos := us } = pure (List.zip _ us)) us hl (fun _ => rfl)), a_is_within := a_is_within, fd_is_within := _, m_is_within := PySem.W.mg_of X G q_is_within, F_is_within := fun_mk (st := s_is_within) l_is_within c_is_within k_is_within, B_is_within := (fun_mk (st := s_is_within) l_is_within c_is_within k_is_within).binds (ps := ["x", "least", "most"]) (fun _ _ _ _ _ _ us hl => @lenP3 _ (fun us => bindArgs _ { pos := us } = pure (List.zip _ us)) us hl (fun _ _ _ => rfl)), a_is_span := a_is_span, fd_is_span := _, m_is_span := PySem.W.mg_of X G q_is_span, F_is_span := fun_mk (st := s_is_span) l_is_span c_is_span k_is_span, B_is_span := (fun_mk (st := s_is_span) l_is_span c_is_span k_is_span).binds (ps := ["thing", "end", "many"]) (fun _ _ _ _ _ _ us hl => @lenP3 _ (fun us => bindArgs _ { pos := us } = pure (List.zip _ us)) us hl (fun _ _ _ => rfl)), a_is_bound := a_is_bound, fd_is_bound := _, m_is_bound := PySem.W.mg_of X G q_is_bound, F_is_bound := fun_mk (st := s_is_bound) l_is_bound c_is_bound k_is_bound, B_is_bound := (fun_mk (st := s_is_bound) l_is_bound c_is_bound k_is_bound).binds (ps := ["thing", "many"]) (fun _ _ _ _ _ _ us hl => @lenP2 _ (fun us => bindArgs _ { pos := us } = pure (List.zip _ us)) us hl (fun _ _ => rfl)), a_spans_by_goal := a_spans_by_goal, fd_spans_by_goal := _, m_spans_by_goal := PySem.W.mg_of X G q_spans_by_goal, F_spans_by_goal := fun_mk (st := s_spans_by_goal) l_spans_by_goal c_spans_by_goal k_spans_by_goal, B_spans_by_goal := (fun_mk (st := s_spans_by_goal) l_spans_by_goal c_spans_by_goal k_spans_by_goal).binds (ps := ["spans"]) (fun _ _ _ _ _ _ us hl => @lenP1 _ (fun us => bindArgs _ { pos := us } = pure (List.zip _ us)) us hl (fun _ => rfl)), a_way_from := a_way_from, fd_way_from := _, m_way_from := PySem.W.mg_of X G q_way_from, F_way_from := fun_mk (st := s_way_from) l_way_from c_way_from k_way_from, B_way_from := (fun_mk (st := s_way_from) l_way_from c_way_from k_way_from).binds (ps := ["spans", "known", "mark"]) (fun _ _ _ _ _ _ us hl => @lenP3 _ (fun us => bindArgs _ { pos := us } = pure (List.zip _ us)) us hl (fun _ _ _ => rfl)), a_are_spans := a_are_spans, fd_are_spans := _, m_are_spans := PySem.W.mg_of X G q_are_spans, F_are_spans := fun_mk (st := s_are_spans) l_are_spans c_are_spans k_are_spans, B_are_spans := (fun_mk (st := s_are_spans) l_are_spans c_are_spans k_are_spans).binds (ps := ["thing", "end", "many"]) (fun _ _ _ _ _ _ us hl => @lenP3 _ (fun us => bindArgs _ { pos := us } = pure (List.zip _ us)) us hl (fun _ _ _ => rfl)), a_is_book := a_is_book, fd_is_book := _, m_is_book := PySem.W.mg_of X G q_is_book, F_is_book := fun_mk (st := s_is_book) l_is_book c_is_book k_is_book, B_is_book := (fun_mk (st := s_is_book) l_is_book c_is_book k_is_book).binds (ps := ["thing"]) (fun _ _ _ _ _ _ us hl => @lenP1 _ (fun us => bindArgs _ { pos := us } = pure (List.zip _ us)) us hl (fun _ => rfl)), a_check_book := a_check_book, fd_check_book := _, m_check_book := PySem.W.mg_of X G q_check_book, F_check_book := fun_mk (st := s_check_book) l_check_book c_check_book k_check_book, B_check_book := (fun_mk (st := s_check_book) l_check_book c_check_book k_check_book).binds (ps := ["book"]) (fun _ _ _ _ _ _ us hl => @lenP1 _ (fun us => bindArgs _ { pos := us } = pure (List.zip _ us)) us hl (fun _ => rfl)), a_read_number := a_read_number, fd_read_number := _, m_read_number := PySem.W.mg_of X G q_read_number, F_read_number := fun_mk (st := s_read_number) l_read_number c_read_number k_read_number, B_read_number := (fun_mk (st := s_read_number) l_read_number c_read_number k_read_number).binds (ps := ["word"]) (fun _ _ _ _ _ _ us hl => @lenP1 _ (fun us => bindArgs _ { pos := us } = pure (List.zip _ us)) us hl (fun _ => rfl)), a_read_row := a_read_row, fd_read_row := _, m_read_row := PySem.W.mg_of X G q_read_row, F_read_row := fun_mk (st := s_read_row) l_read_row c_read_row k_read_row, B_read_row := (fun_mk (st := s_read_row) l_read_row c_read_row k_read_row).binds (ps := ["row"]) (fun _ _ _ _ _ _ us hl => @lenP1 _ (fun us => bindArgs _ { pos := us } = pure (List.zip _ us)) us hl (fun _ => rfl)), a_with_row := a_with_row, fd_with_row := _, m_with_row := PySem.W.mg_of X G q_with_row, F_with_row := fun_mk (st := s_with_row) l_with_row c_with_row k_with_row, B_with_row := (fun_mk (st := s_with_row) l_with_row c_with_row k_with_row).binds (ps := ["book", "at", "told"]) (fun _ _ _ _ _ _ us hl => @lenP3 _ (fun us => bindArgs _ { pos := us } = pure (List.zip _ us)) us hl (fun _ _ _ => rfl)), a_show_book := a_show_book, fd_show_book := _, m_show_book := PySem.W.mg_of X G q_show_book, F_show_book := fun_mk (st := s_show_book) l_show_book c_show_book k_show_book, B_show_book := (fun_mk (st := s_show_book) l_show_book c_show_book k_show_book).binds (ps := ["book"]) (fun _ _ _ _ _ _ us hl => @lenP1 _ (fun us => bindArgs _ { pos := us } = pure (List.zip _ us)) us hl (fun _ => rfl)), a_read_book := a_read_book, fd_read_book := _, m_read_book := PySem.W.mg_of X G q_read_book, F_read_book := fun_mk (st := s_read_book) l_read_book c_read_book k_read_book, B_read_book := (fun_mk (st := s_read_book) l_read_book c_read_book k_read_book).binds (ps := ["text"]) (fun _ _ _ _ _ _ us hl => @lenP1 _ (fun us => bindArgs _ { pos := us } = pure (List.zip _ us)) us hl (fun _ => rfl)), a__law_pool := a__law_pool, fd__law_pool := _, m__law_pool := PySem.W.mg_of X G q__law_pool, F__law_pool := fun_mk (st := s__law_pool) l__law_pool c__law_pool k__law_pool, B__law_pool := (fun_mk (st := s__law_pool) l__law_pool c__law_pool k__law_pool).binds (ps := ["_law_script", "_law_k"]) (fun _ _ _ _ _ _ us hl => @lenP2 _ (fun us => bindArgs _ { pos := us } = pure (List.zip _ us)) us hl (fun _ _ => rfl)), a__law_take := a__law_take, fd__law_take := _, m__law_take := PySem.W.mg_of X G q__law_take, F__law_take := fun_mk (st := s__law_take) l__law_take c__law_take k__law_take, B__law_take := (fun_mk (st := s__law_take) l__law_take c__law_take k__law_take).binds (ps := ["_law_pool_here", "_law_many"]) (fun _ _ _ _ _ _ us hl => @lenP2 _ (fun us => bindArgs _ { pos := us } = pure (List.zip _ us)) us hl (fun _ _ => rfl)), a__law_spans := a__law_spans, fd__law_spans := _, m__law_spans := PySem.W.mg_of X G q__law_spans, F__law_spans := fun_mk (st := s__law_spans) l__law_spans c__law_spans k__law_spans, B__law_spans := (fun_mk (st := s__law_spans) l__law_spans c__law_spans k__law_spans).binds (ps := ["_law_pool_here", "_law_many", "_law_end", "_law_most"]) (fun _ _ _ _ _ _ us hl => @lenP4 _ (fun us => bindArgs _ { pos := us } = pure (List.zip _ us)) us hl (fun _ _ _ _ => rfl)), a__law_bounds := a__law_bounds, fd__law_bounds := _, m__law_bounds := PySem.W.mg_of X G q__law_bounds, F__law_bounds := fun_mk (st := s__law_bounds) l__law_bounds c__law_bounds k__law_bounds, B__law_bounds := (fun_mk (st := s__law_bounds) l__law_bounds c__law_bounds k__law_bounds).binds (ps := ["_law_pool_here", "_law_many", "_law_end", "_law_most"]) (fun _ _ _ _ _ _ us hl => @lenP4 _ (fun us => bindArgs _ { pos := us } = pure (List.zip _ us)) us hl (fun _ _ _ _ => rfl)), a__law_near_bounds := a__law_near_bounds, fd__law_near_bounds := _, m__law_near_bounds := PySem.W.mg_of X G q__law_near_bounds, F__law_near_bounds := fun_mk (st := s__law_near_bounds) l__law_near_bounds c__law_near_bounds k__law_near_bounds, B__law_near_bounds := (fun_mk (st := s__law_near_bounds) l__law_near_bounds c__law_near_bounds k__law_near_bounds).binds (ps := ["_law_pool_here", "_law_book_here", "_law_most"]) (fun _ _ _ _ _ _ us hl => @lenP3 _ (fun us => bindArgs _ { pos := us } = pure (List.zip _ us)) us hl (fun _ _ _ => rfl)), a__law_book := a__law_book, fd__law_book := _, m__law_book := PySem.W.mg_of X G q__law_book, F__law_book := fun_mk (st := s__law_book) l__law_book c__law_book k__law_book, B__law_book := (fun_mk (st := s__law_book) l__law_book c__law_book k__law_book).binds (ps := ["_law_pool_here", "_law_most_marks", "_law_most_spans", "_law_most_bounds", "_law_most_end"]) (fun _ _ _ _ _ _ us hl => @lenP5 _ (fun us => bindArgs _ { pos := us } = pure (List.zip _ us)) us hl (fun _ _ _ _ _ => rfl)), a__law_rows := a__law_rows, fd__law_rows := _, m__law_rows := PySem.W.mg_of X G q__law_rows, F__law_rows := fun_mk (st := s__law_rows) l__law_rows c__law_rows k__law_rows, B__law_rows := (fun_mk (st := s__law_rows) l__law_rows c__law_rows k__law_rows).binds (ps := ["_law_book_here"]) (fun _ _ _ _ _ _ us hl => @lenP1 _ (fun us => bindArgs _ { pos := us } = pure (List.zip _ us)) us hl (fun _ => rfl)), a__law_reads := a__law_reads, fd__law_reads := _, m__law_reads := PySem.W.mg_of X G q__law_reads, F__law_reads := fun_mk (st := s__law_reads) l__law_reads c__law_reads k__law_reads, B__law_reads := (fun_mk (st := s__law_reads) l__law_reads c__law_reads k__law_reads).binds (ps := ["_law_rows_here", "_law_book_here"]) (fun _ _ _ _ _ _ us hl => @lenP2 _ (fun us => bindArgs _ { pos := us } = pure (List.zip _ us)) us hl (fun _ _ => rfl)), a__law_refused := a__law_refused, fd__law_refused := _, m__law_refused := PySem.W.mg_of X G q__law_refused, F__law_refused := fun_mk (st := s__law_refused) l__law_refused c__law_refused k__law_refused, B__law_refused := (fun_mk (st := s__law_refused) l__law_refused c__law_refused k__law_refused).binds (ps := ["_law_rows_here", "_law_row"]) (fun _ _ _ _ _ _ us hl => @lenP2 _ (fun us => bindArgs _ { pos := us } = pure (List.zip _ us)) us hl (fun _ _ => rfl)), a__law_begins_right := a__law_begins_right, fd__law_begins_right := _, m__law_begins_right := PySem.W.mg_of X G q__law_begins_right, F__law_begins_right := fun_mk (st := s__law_begins_right) l__law_begins_right c__law_begins_right k__law_begins_right, B__law_begins_right := (fun_mk (st := s__law_begins_right) l__law_begins_right c__law_begins_right k__law_begins_right).binds (ps := ["_law_book_here"]) (fun _ _ _ _ _ _ us hl => @lenP1 _ (fun us => bindArgs _ { pos := us } = pure (List.zip _ us)) us hl (fun _ => rfl)), a__law_turned_right := a__law_turned_right, fd__law_turned_right := _, m__law_turned_right := PySem.W.mg_of X G q__law_turned_right, F__law_turned_right := fun_mk (st := s__law_turned_right) l__law_turned_right c__law_turned_right k__law_turned_right, B__law_turned_right := (fun_mk (st := s__law_turned_right) l__law_turned_right c__law_turned_right k__law_turned_right).binds (ps := ["_law_pool_here", "_law_book_here"]) (fun _ _ _ _ _ _ us hl => @lenP2 _ (fun us => bindArgs _ { pos := us } = pure (List.zip _ us)) us hl (fun _ _ => rfl)), a__law_more_right := a__law_more_right, fd__law_more_right := _, m__law_more_right := PySem.W.mg_of X G q__law_more_right, F__law_more_right := fun_mk (st := s__law_more_right) l__law_more_right c__law_more_right k__law_more_right, B__law_more_right := (fun_mk (st := s__law_more_right) l__law_more_right c__law_more_right k__law_more_right).binds (ps := ["_law_pool_here", "_law_book_here", "_law_other"]) (fun _ _ _ _ _ _ us hl => @lenP3 _ (fun us => bindArgs _ { pos := us } = pure (List.zip _ us)) us hl (fun _ _ _ => rfl)), a_law := a_law, fd_law := _, m_law := PySem.W.mg_of X G q_law, F_law := fun_mk (st := s_law) l_law c_law k_law, B_law := (fun_mk (st := s_law) l_law c_law k_law).binds (ps := ["_law_script"]) (fun _ _ _ _ _ _ us hl => @lenP1 _ (fun us => bindArgs _ { pos := us } = pure (List.zip _ us)) us hl (fun _ => rfl)), n_abs := PySem.W.mg_none_of X G n_abs, n_all := PySem.W.mg_none_of X G n_all, n_bool := PySem.W.mg_none_of X G n_bool, n_divmod := PySem.W.mg_none_of X G n_divmod, n_enumerate := PySem.W.mg_none_of X G n_enumerate, n_int := PySem.W.mg_none_of X G n_int, n_isinstance := PySem.W.mg_none_of X G n_isinstance, n_len := PySem.W.mg_none_of X G n_len, n_max := PySem.W.mg_none_of X G n_max, n_min := PySem.W.mg_none_of X G n_min, n_range := PySem.W.mg_none_of X G n_range, n_str := PySem.W.mg_none_of X G n_str, n_sum := PySem.W.mg_none_of X G n_sum, n_tuple := PySem.W.mg_none_of X G n_tuple, n_zip := PySem.W.mg_none_of X G n_zip, t_MOST_BOUNDS := t_MOST_BOUNDS, g_MOST_BOUNDS := PySem.W.mg_of X G g_MOST_BOUNDS, t_MOST_END := t_MOST_END, g_MOST_END := PySem.W.mg_of X G g_MOST_END, t_MOST_MARKS := t_MOST_MARKS, g_MOST_MARKS := PySem.W.mg_of X G g_MOST_MARKS, t_MOST_SPANS := t_MOST_SPANS, g_MOST_SPANS := PySem.W.mg_of X G g_MOST_SPANS, t_MOST_W := t_MOST_W, g_MOST_W := PySem.W.mg_of X G g_MOST_W, a_FORMS := a_FORMS, m_FORMS := PySem.W.mg_of X G q_FORMS, W_FORMS := ⟨⟨⟨es_FORMS, n_FORMS, l_FORMS, y_FORMS⟩, o_FORMS, fun q hq => by simp only [List.mem_cons, List.not_mem_nil, or_false] at hq; rcases hq with rfl | rfl | rfl | rfl; exact ⟨_, v_FORMS_0⟩; exact ⟨_, v_FORMS_1⟩; exact ⟨_, v_FORMS_2⟩; exact ⟨_, v_FORMS_3⟩⟩, fun z hz => miss_ns l_FORMS z_FORMS (by simpa using hz)⟩, C_NoText := C_NoText, a_NoText_init := a_NoText_init, fd_NoText_init := _, F_NoText_init := fun_mk (st := s_NoText_init) l_NoText_init c_NoText_init k_NoText_init, B_NoText_init := (fun_mk (st := s_NoText_init) l_NoText_init c_NoText_init k_NoText_init).binds (ps := ["self", "row"]) (fun _ _ _ _ _ _ us hl => @lenP2 _ (fun us => bindArgs _ { pos := us } = pure (List.zip _ us)) us hl (fun _ _ => rfl)), e_NoText := ⟨PySem.W.mg_of X G eg_NoText, oexC_of lx_NoText rv_NoText xs_NoText eb_NoText et_NoText ek_NoText, q_NoText_init, xt_NoText_init, xn_NoText⟩, ci_HourError := ⟨PySem.W.mg_of X G eg_HourError, cr_HourError, cg_HourError, cv_HourError⟩, xf_NoText := ⟨eg_NoText, ⟨hg_NoText, hk_NoText, eb_NoText, hd_NoText⟩, xn_NoText⟩, C_HourError := C_HourError, e_HourError := ⟨PySem.W.mg_of X G eg_HourError, ex_HourError, ek_HourError, eb_HourError, et_HourError, ei_HourError⟩, C_NoBook := C_NoBook, e_NoBook := ⟨PySem.W.mg_of X G eg_NoBook, ex_NoBook, ek_NoBook, eb_NoBook, et_NoBook, ei_NoBook⟩, r_NoText := ⟨eg_NoText, ⟨hg_NoText, hk_NoText, eb_NoText, hd_NoText, ha_NoText, er_hn, er_ht, hm_NoText⟩⟩, x_NoText_NoText := exm_sub eb_NoText ei_NoText et_NoText sx_NoText_NoText }
  exact ⟨_, fun s u => .of_eq rfl, fun base _ _ => law_fn hlaw (ok_law T)⟩
end Law
namespace Law
open PySem L2 DL
@[irreducible] noncomputable def T_is_whole (p_x : D) : Q Bool :=
  .ok ((isiD "int" (eD p_x)) && (!(isiD "bool" (eD p_x))))
@[irreducible] noncomputable def T_spans_by_goal_D (p_spans : D) : Q (List (Int × Int)) :=
  (Q.of (itT p_spans)).bind fun (xs_1 : List D) => (foldQ (enumT 0 xs_1) (([] : (List (Int × Int))) : (List (Int × Int))) (fun (x_2 : (Int × D)) (s_3 : (List (Int × Int))) => (Q.of (ixD (eD x_2.2) (eI 1))).bind fun (v_4 : D) => (Q.of (keyI v_4)).bind fun (k_5 : Int) => (Q.of (roomT (List.length s_3))).bind fun _ => .ok (putT s_3 k_5 x_2.1))).bind fun (s_6 : (List (Int × Int))) => .ok s_6
@[irreducible] noncomputable def T_way_from_D (p_spans : D) (p_known : (List (Int × Int))) (p_mark : D) : Q (List Int) :=
  (whileS (fun (s_1 : (D × (List Int))) => (Q.of (inX p_known s_1.1)).bind fun (v_2 : Bool) => (if v_2 = true then (Q.of (lenT (eD p_spans))).bind fun (v_3 : Int) => .ok (decide (((List.length s_1.2 : Nat) : Int) ≤ v_3)) else .ok false)) (fun (s_1 : (D × (List Int))) => (Q.of (getX p_known s_1.1)).bind fun (v_4 : Int) => (Q.of (roomT (List.length s_1.2))).bind fun _ => (Q.of (getX p_known s_1.1)).bind fun (v_5 : Int) => (Q.of (ixD (eD p_spans) (eI v_5))).bind fun (v_6 : D) => (Q.of (ixD (eD v_6) (eI 0))).bind fun (v_7 : D) => .ok (v_7, (s_1.2 ++ [v_4]))) fuelW ((p_mark, ([] : (List Int))) : (D × (List Int)))).bind fun (s_8 : (D × (List Int))) => .ok s_8.2
@[irreducible] noncomputable def T_read_number (p_word : Str) : Q (Option Int) :=
  Q.bind (α := Str) ((Q.of (slST none (some 1) p_word)).bind fun (v_1 : Str) => (if (v_1 == ("-" : Str)) = true then (Q.of (slST (some 1) none p_word)).bind fun (v_2 : Str) => .ok v_2 else .ok p_word)) fun s_3 => Q.bind (α := Bool) ((if (s_3 == ("" : Str)) = true then .ok true else (Q.of (signsT s_3)).bind fun (xs_4 : List Str) => (compQ (γ := Bool) xs_4 (() : Unit) (fun (x_5 : Str) (s_6 : Unit) => (Q.of (inB (eS x_5) (eS ("0123456789" : Str)))).bind fun (v_7 : Bool) => .ok (some v_7, ()))).bind fun c_8 => .ok (!(List.all c_8.1 id)))) fun s_11 => (if s_11 = true then .ok none else Q.bind (α := Bool) ((Q.of (atST s_3 0)).bind fun (v_12 : Str) => (if (v_12 == ("0" : Str)) = true then .ok (!(p_word == ("0" : Str))) else .ok false)) fun s_13 => (if s_13 = true then .ok none else (Q.of (intST p_word)).bind fun (v_14 : Int) => .ok (some v_14)))
@[irreducible] noncomputable def T_with_row (p_book : (Option (D × D × D × D))) (p_at : Int) (p_told : (Option (Str × (List (Option Int))))) : Q (Option (D × D × D × D)) :=
  (Q.of p_told).bind fun (u_1 : (Str × (List (Option Int)))) => (if (decide (p_at < 2)) = true then (Q.of (atI [("hours" : Str), ("marks" : Str)] p_at)).bind fun (v_2 : Str) => (Q.of (Option.map (fun k => !k) (eqB (eD (eS u_1.1)) (eS v_2)))).bind fun (v_3 : Bool) => (if v_3 = true then .ok none else (Q.of (ixD (eD ((eV (eO eI)) u_1.2)) (eI 0))).bind fun (v_4 : D) => (Q.of p_book).bind fun (v_5 : (D × D × D × D)) => (Q.of (ixD (eD ((eV (eO eI)) u_1.2)) (eI 0))).bind fun (v_6 : D) => (Q.of (atI [(v_4, (eI 1), (), ()), (v_5.1, v_6, (), ())] p_at)).bind fun (v_7 : (D × D × Unit × Unit)) => .ok (some (v_7.1, v_7.2.1, (eT0 v_7.2.2.1), (eT0 v_7.2.2.2)))) else Q.bind (α := Bool) ((Q.of (eqB (eD (eS u_1.1)) (eS ("span" : Str)))).bind fun (v_8 : Bool) => (if v_8 = true then (Q.of p_book).bind fun (v_9 : (D × D × D × D)) => (Q.of (eqB (eD v_9.2.2.2) (eT0 ()))).bind fun (v_10 : Bool) => .ok v_10 else .ok false)) fun s_11 => (if s_11 = true then (Q.of p_book).bind fun (v_12 : (D × D × D × D)) => (Q.of p_book).bind fun (v_13 : (D × D × D × D)) => (Q.of p_book).bind fun (v_14 : (D × D × D × D)) => (Q.of (addD (eD v_14.2.2.1) ((eT1 eD) ((eV (eO eI)) u_1.2)))).bind fun (v_15 : D) => .ok (some (v_12.1, v_13.2.1, v_15, (eT0 ()))) else (Q.of (eqB (eD (eS u_1.1)) (eS ("bound" : Str)))).bind fun (v_16 : Bool) => (if v_16 = true then (Q.of p_book).bind fun (v_17 : (D × D × D × D)) => (Q.of p_book).bind fun (v_18 : (D × D × D × D)) => (Q.of p_book).bind fun (v_19 : (D × D × D × D)) => (Q.of p_book).bind fun (v_20 : (D × D × D × D)) => (Q.of (addD (eD v_20.2.2.2) ((eT1 eD) ((eV (eO eI)) u_1.2)))).bind fun (v_21 : D) => .ok (some (v_17.1, v_18.2.1, v_19.2.2.1, v_21)) else .ok none)))
@[irreducible] noncomputable def T_law_pool (p_script : List Int) (p_k : Int) : Q (List Int) :=
  (Q.ok ((List.sum (cutD p_script (some p_k) (some (p_k + 1)))) : Int)).bind fun cell_1 => (if ((decide (cell_1 < 0)) || (decide (((10 : Int) ^ 18) ≤ cell_1))) = true then (Q.of (modT ((Int.natAbs cell_1 : Nat) : Int) P384)).bind fun (v_2 : Int) => .ok [v_2] else (Q.of (mulT (977 * p_k) p_k)).bind fun (v_3 : Int) => (Q.of (rgT 0 27)).bind fun (xs_4 : List Int) => (foldQ xs_4 (((((cell_1 * 48271) + v_3) + 13), 0) : (Int × Int)) (fun (x_5 : Int) (s_6 : (Int × Int)) => (Q.ok ((((((s_6.1 % 999999999989) * 69621) + (40503 * x_5)) + 271) % 999999999989) : Int)).bind fun more_7 => (Q.of (mulT s_6.2 ((10 : Int) ^ 11))).bind fun (v_8 : Int) => (Q.of (mulT more_7 ((more_7 % 65537) + 3))).bind fun (v_9 : Int) => .ok (more_7, (v_8 + (v_9 % 99999999977))))).bind fun (s_10 : (Int × Int)) => .ok [s_10.2])
@[irreducible] noncomputable def T_law_take (p_pool_here : (List Int)) (p_many : Int) : Q (Int × (List Int)) :=
  (Q.of (atI p_pool_here 0)).bind fun (v_1 : Int) => (Q.of (divmodT v_1 p_many)).bind fun (v_2 : (Int × Int)) => (Q.of (setT p_pool_here 0 v_2.1)).bind fun (pool_here_3 : (List Int)) => .ok (v_2.2, pool_here_3)
@[irreducible] noncomputable def T_law_rows (p_book_here : (Int × Int × (List (Int × Int × Int × Int)) × (List (Int × Int × Int)))) : Q (List Str) :=
  (Q.of (showT p_book_here.1)).bind fun (v_1 : Str) => (Q.of (catST ("hours " : Str) v_1)).bind fun (v_2 : Str) => (Q.of (showT p_book_here.2.1)).bind fun (v_3 : Str) => (Q.of (catST ("marks " : Str) v_3)).bind fun (v_4 : Str) => (foldQ p_book_here.2.2.1 ([v_2, v_4] : (List Str)) (fun (x_5 : (Int × Int × Int × Int)) (s_6 : (List Str)) => (compQ (γ := Str) [x_5.1, x_5.2.1, x_5.2.2.1, x_5.2.2.2] (() : Unit) (fun (x_7 : Int) (s_8 : Unit) => (Q.of (showT x_7)).bind fun (v_9 : Str) => .ok (some v_9, ()))).bind fun c_10 => (Q.of (joinT (" " : Str) c_10.1)).bind fun (v_11 : Str) => (Q.of (catST ("span " : Str) v_11)).bind fun (v_12 : Str) => (Q.of (roomT (List.length s_6))).bind fun _ => .ok (s_6 ++ [v_12]))).bind fun (s_15 : (List Str)) => (compQ (γ := Str) p_book_here.2.2.2 (() : Unit) (fun (x_16 : (Int × Int × Int)) (s_17 : Unit) => (compQ (γ := Str) [x_16.1, x_16.2.1, x_16.2.2] (() : Unit) (fun (x_18 : Int) (s_19 : Unit) => (Q.of (showT x_18)).bind fun (v_20 : Str) => .ok (some v_20, ()))).bind fun c_21 => (Q.of (joinT (" " : Str) c_21.1)).bind fun (v_22 : Str) => (Q.of (catST ("bound " : Str) v_22)).bind fun (v_23 : Str) => .ok (some v_23, ()))).bind fun c_26 => (Q.of (catT s_15 c_26.1)).bind fun (v_27 : (List Str)) => .ok v_27
@[irreducible] noncomputable def T_is_within (p_x : D) (p_least : D) (p_most : D) : Q Bool :=
  Q.bind (α := Bool) ((T_is_whole p_x).bind fun (r_1 : Bool) => (if r_1 = true then (Q.of (cmpT (fun i j => decide (i ≤ j)) (eD p_least) (eD p_x))).bind fun (p_3 : Bool) => (if p_3 = true then (Q.of (cmpT (fun i j => decide (i ≤ j)) (eD p_x) (eD p_most))).bind fun (v_2 : Bool) => .ok v_2 else .ok false) else .ok false)) fun s_4 => .ok s_4
@[irreducible] noncomputable def T_read_row (p_row : Str) : Q (Option (Str × (List (Option Int)))) :=
  (Q.of (splitT p_row (" " : Str))).bind fun (v_1 : (List Str)) => (compQ (γ := (Option Int)) (cutD v_1 (some 1) none) (() : Unit) (fun (x_2 : Str) (s_3 : Unit) => (T_read_number x_2).bind fun (r_4 : (Option Int)) => .ok (some r_4, ()))).bind fun c_5 => Q.bind (α := Bool) ((Q.of (atI v_1 0)).bind fun (v_6 : Str) => (if (!(decide (((wgetO [("hours", 1), ("marks", 1), ("span", 4), ("bound", 3)] v_6) : (Option Int)) = (some ((List.length c_5.1 : Nat) : Int))))) = true then .ok true else (Q.of (inB (eN ()) ((eV (eO eI)) c_5.1))).bind fun (v_7 : Bool) => .ok v_7)) fun s_8 => (if s_8 = true then .ok none else (Q.of (atI v_1 0)).bind fun (v_9 : Str) => .ok (some (v_9, c_5.1)))
@[irreducible] noncomputable def T_law_spans (p_pool_here : (List Int)) (p_many : Int) (p_end : Int) (p_most : Int) : Q ((List (Int × Int × Int × Int)) × (List Int)) :=
  (T_law_take p_pool_here (p_most + 1)).noX.bind fun (r_1 : (Int × (List Int))) => (Q.of (rgT 0 r_1.1)).bind fun (xs_2 : List Int) => (foldQ xs_2 ((r_1.2, ([] : (List (Int × Int × Int × Int))), ([] : (List (Int × Int)))) : ((List Int) × (List (Int × Int × Int × Int)) × (List (Int × Int)))) (fun (x_3 : Int) (s_4 : ((List Int) × (List (Int × Int × Int × Int)) × (List (Int × Int)))) => (T_law_take s_4.1 p_many).noX.bind fun (r_5 : (Int × (List Int))) => (T_law_take r_5.2 p_many).noX.bind fun (r_6 : (Int × (List Int))) => (T_law_take r_6.2 2).noX.bind fun (r_8 : (Int × (List Int))) => (Q.of (atI [(min 3 p_end), p_end] r_8.1)).bind fun (v_9 : Int) => (T_law_take r_8.2 v_9).noX.bind fun (r_7 : (Int × (List Int))) => (T_law_take r_7.2 3).noX.bind fun (r_11 : (Int × (List Int))) => (Q.of (atI [1, 4, p_end] r_11.1)).bind fun (v_12 : Int) => (T_law_take r_11.2 v_12).noX.bind fun (r_10 : (Int × (List Int))) => (whileS (fun (s_13 : Int) => .ok (Option.isSome (getT s_4.2.2 s_13))) (fun (s_13 : Int) => (Q.of (getT s_4.2.2 s_13)).bind fun (v_14 : Int) => .ok v_14) fuelW (r_5.1 : Int)).bind fun (s_15 : Int) => (if ((decide (0 < r_6.1)) && ((!(decide (r_6.1 = r_5.1))) && ((!(Option.isSome (getT s_4.2.2 r_6.1))) && (!(decide (s_15 = r_6.1)))))) = true then (Q.of (roomT (List.length s_4.2.2))).bind fun _ => (Q.of (roomT (List.length s_4.2.1))).bind fun _ => .ok (r_10.2, (s_4.2.1 ++ [(r_5.1, r_6.1, (1 + r_7.1), (min p_end ((1 + r_7.1) + r_10.1)))]), (putT s_4.2.2 r_6.1 r_5.1)) else .ok (r_10.2, s_4.2.1, s_4.2.2)))).bind fun (s_16 : ((List Int) × (List (Int × Int × Int × Int)) × (List (Int × Int)))) => .ok (s_16.2.1, s_16.1)
@[irreducible] noncomputable def T_law_bounds (p_pool_here : (List Int)) (p_many : Int) (p_end : Int) (p_most : Int) : Q ((List (Int × Int × Int)) × (List Int)) :=
  (T_law_take p_pool_here (p_most + 1)).noX.bind fun (r_1 : (Int × (List Int))) => (Q.of (rgT 0 r_1.1)).bind fun (xs_2 : List Int) => (foldQ xs_2 ((r_1.2, ([] : (List (Int × Int × Int)))) : ((List Int) × (List (Int × Int × Int)))) (fun (x_3 : Int) (s_4 : ((List Int) × (List (Int × Int × Int)))) => (T_law_take s_4.1 p_many).noX.bind fun (r_5 : (Int × (List Int))) => (T_law_take r_5.2 p_many).noX.bind fun (r_6 : (Int × (List Int))) => (T_law_take r_6.2 4).noX.bind fun (r_7 : (Int × (List Int))) => (T_law_take r_7.2 (p_end + 1)).noX.bind fun (r_8 : (Int × (List Int))) => (T_law_take r_8.2 4).noX.bind fun (r_9 : (Int × (List Int))) => (Q.of (atI [r_7.1, (0 - r_7.1), r_8.1, (0 - r_8.1)] r_9.1)).bind fun (v_10 : Int) => (if (!(decide (r_5.1 = r_6.1))) = true then (Q.of (roomT (List.length s_4.2))).bind fun _ => .ok (r_9.2, (s_4.2 ++ [(r_5.1, r_6.1, v_10)])) else .ok (r_9.2, s_4.2)))).bind fun (s_11 : ((List Int) × (List (Int × Int × Int)))) => .ok (s_11.2, s_11.1)
@[irreducible] noncomputable def T_law_near_bounds (p_pool_here : (List Int)) (p_book_here : (Int × Int × (List (Int × Int × Int × Int)) × Unit)) (p_most : Int) : Q ((List (Int × Int × Int)) × (List Int)) :=
  (Q.of (rgT 0 p_book_here.2.1)).bind fun (xs_1 : List Int) => (compQ (γ := Int) xs_1 (p_pool_here : (List Int)) (fun (x_2 : Int) (s_3 : (List Int)) => (T_law_take s_3 (p_book_here.1 + 1)).noX.bind fun (r_4 : (Int × (List Int))) => .ok (some r_4.1, r_4.2))).bind fun c_5 => (Q.of (setT c_5.1 0 0)).bind fun (hours_6 : (List Int)) => (compQ (γ := Int) p_book_here.2.2.1 (c_5.2 : (List Int)) (fun (x_7 : (Int × Int × Int × Int)) (s_8 : (List Int)) => (T_law_take s_8 ((x_7.2.2.2 - x_7.2.2.1) + 1)).noX.bind fun (r_9 : (Int × (List Int))) => .ok (some (x_7.2.2.1 + r_9.1), r_9.2))).bind fun c_10 => (Q.of (rgT 0 ((List.length p_book_here.2.2.1 : Nat) : Int))).bind fun (xs_11 : List Int) => (foldQ xs_11 (hours_6 : (List Int)) (fun (x_12 : Int) (s_13 : (List Int)) => (foldQ (List.zip p_book_here.2.2.1 c_10.1) (s_13 : (List Int)) (fun (x_14 : ((Int × Int × Int × Int) × Int)) (s_15 : (List Int)) => (Q.of (atI s_15 x_14.1.1)).bind fun (v_16 : Int) => (Q.of (setT s_15 x_14.1.2.1 (v_16 + x_14.2))).bind fun (hours_17 : (List Int)) => .ok hours_17)).bind fun (s_18 : (List Int)) => .ok s_18)).bind fun (s_19 : (List Int)) => (T_law_take c_10.2 (p_most + 1)).noX.bind fun (r_20 : (Int × (List Int))) => (Q.of (rgT 0 r_20.1)).bind fun (xs_21 : List Int) => (foldQ xs_21 ((r_20.2, ([] : (List (Int × Int × Int)))) : ((List Int) × (List (Int × Int × Int)))) (fun (x_22 : Int) (s_23 : ((List Int) × (List (Int × Int × Int)))) => (T_law_take s_23.1 p_book_here.2.1).noX.bind fun (r_24 : (Int × (List Int))) => (T_law_take r_24.2 p_book_here.2.1).noX.bind fun (r_25 : (Int × (List Int))) => (Q.of (atI s_19 r_25.1)).bind fun (v_26 : Int) => (Q.of (atI s_19 r_24.1)).bind fun (v_27 : Int) => (T_law_take r_25.2 6).noX.bind fun (r_28 : (Int × (List Int))) => (Q.of (atI [0, 0, 1, 2, 3, (0 - 1)] r_28.1)).bind fun (v_29 : Int) => (if ((!(decide (r_24.1 = r_25.1))) && (decide (((Int.natAbs ((v_26 - v_27) + v_29) : Nat) : Int) ≤ 60))) = true then (Q.of (roomT (List.length s_23.2))).bind fun _ => .ok (r_28.2, (s_23.2 ++ [(r_24.1, r_25.1, ((v_26 - v_27) + v_29))])) else .ok (r_28.2, s_23.2)))).bind fun (s_30 : ((List Int) × (List (Int × Int × Int)))) => .ok (s_30.2, s_30.1)
@[irreducible] noncomputable def T_is_span (p_thing : D) (p_end : D) (p_many : D) : Q Bool :=
  Q.bind (α := Bool) ((if (!(isiD "tuple" (eD p_thing))) = true then .ok true else (Q.of (lenT (eD p_thing))).bind fun (v_1 : Int) => .ok (!(decide (v_1 = 4))))) fun s_2 => (if s_2 = true then .ok false else (Q.of (un4 p_thing)).bind fun u_3 => Q.bind (α := Bool) ((Q.of (subD (eD p_many) (eI 1))).bind fun (v_5 : D) => (T_is_within u_3.1 (eI 0) v_5).noX.bind fun (r_4 : Bool) => (if (!r_4) = true then .ok true else (Q.of (subD (eD p_many) (eI 1))).bind fun (v_7 : D) => (T_is_within u_3.2.1 (eI 1) v_7).noX.bind fun (r_6 : Bool) => (if (!r_6) = true then .ok true else (Q.of (eqB (eD u_3.1) (eD u_3.2.1))).bind fun (v_8 : Bool) => .ok v_8))) fun s_9 => (if s_9 = true then .ok false else Q.bind (α := Bool) ((T_is_within u_3.2.2.2 (eI 1) p_end).bind fun (r_10 : Bool) => (if r_10 = true then (T_is_within u_3.2.2.1 (eI 1) u_3.2.2.2).bind fun (r_11 : Bool) => .ok r_11 else .ok false)) fun s_12 => .ok s_12))
@[irreducible] noncomputable def T_is_bound (p_thing : D) (p_many : D) : Q Bool :=
  Q.bind (α := Bool) ((if (!(isiD "tuple" (eD p_thing))) = true then .ok true else (Q.of (lenT (eD p_thing))).bind fun (v_1 : Int) => .ok (!(decide (v_1 = 3))))) fun s_2 => (if s_2 = true then .ok false else (Q.of (un3 p_thing)).bind fun u_3 => Q.bind (α := Bool) ((Q.of (subD (eD p_many) (eI 1))).bind fun (v_5 : D) => (T_is_within u_3.1 (eI 0) v_5).noX.bind fun (r_4 : Bool) => (if (!r_4) = true then .ok true else (Q.of (subD (eD p_many) (eI 1))).bind fun (v_7 : D) => (T_is_within u_3.2.1 (eI 0) v_7).noX.bind fun (r_6 : Bool) => (if (!r_6) = true then .ok true else (Q.of (eqB (eD u_3.1) (eD u_3.2.1))).bind fun (v_8 : Bool) => .ok v_8))) fun s_9 => (if s_9 = true then .ok false else (T_is_within u_3.2.2 (eI (0 - 60)) (eI 60)).bind fun (r_10 : Bool) => .ok r_10))
@[irreducible] noncomputable def T_law_book (p_pool_here : (List Int)) (p_most_marks : Int) (p_most_spans : Int) (p_most_bounds : Int) (p_most_end : Int) : Q ((Int × Int × (List (Int × Int × Int × Int)) × (List (Int × Int × Int))) × (List Int)) :=
  (T_law_take p_pool_here 3).noX.bind fun (r_1 : (Int × (List Int))) => (T_law_take r_1.2 p_most_end).noX.bind fun (r_2 : (Int × (List Int))) => (T_law_take r_2.2 p_most_marks).noX.bind fun (r_3 : (Int × (List Int))) => (T_law_spans r_3.2 (1 + r_3.1) (1 + r_2.1) p_most_spans).noX.bind fun (r_4 : ((List (Int × Int × Int × Int)) × (List Int))) => (Q.ok (((1 + r_2.1), (1 + r_3.1), r_4.1, ()) : (Int × Int × (List (Int × Int × Int × Int)) × Unit))).bind fun book_here_5 => (if (decide (r_1.1 = 0)) = true then (T_law_bounds r_4.2 (1 + r_3.1) (1 + r_2.1) p_most_bounds).noX.bind fun (r_6 : ((List (Int × Int × Int)) × (List Int))) => .ok (((1 + r_2.1), (1 + r_3.1), r_4.1, r_6.1), r_6.2) else (T_law_near_bounds r_4.2 book_here_5 p_most_bounds).noX.bind fun (r_7 : ((List (Int × Int × Int)) × (List Int))) => .ok (((1 + r_2.1), (1 + r_3.1), r_4.1, r_7.1), r_7.2))
@[irreducible] noncomputable def T_are_spans (p_thing : D) (p_end : D) (p_many : D) : Q Bool :=
  Q.bind (α := Bool) ((if (!(isiD "tuple" (eD p_thing))) = true then .ok true else (Q.of (lenT (eD p_thing))).bind fun (v_1 : Int) => .ok (decide (4 < v_1)))) fun s_2 => (if s_2 = true then .ok false else (Q.of (itT p_thing)).bind fun (xs_3 : List D) => (compQ (γ := Bool) xs_3 (() : Unit) (fun (x_4 : D) (s_5 : Unit) => (T_is_span x_4 p_end p_many).bind fun (r_6 : Bool) => .ok (some r_6, ()))).bind fun c_7 => (if (!(List.all c_7.1 id)) = true then .ok false else (T_spans_by_goal_D p_thing).bind fun (r_8 : (List (Int × Int))) => Q.bind (α := Bool) ((Q.of (lenT (eD p_thing))).bind fun (v_9 : Int) => (if (decide (((List.length r_8 : Nat) : Int) = v_9)) = true then (compQ (γ := Bool) (List.map (fun p => p.1) r_8) (() : Unit) (fun (x_10 : Int) (s_11 : Unit) => (T_way_from_D p_thing r_8 (eI x_10)).bind fun (r_12 : (List Int)) => (Q.of (lenT (eD p_thing))).bind fun (v_13 : Int) => .ok (some (decide (((List.length r_12 : Nat) : Int) ≤ v_13)), ()))).bind fun c_14 => .ok (List.all c_14.1 id) else .ok false)) fun s_17 => .ok s_17))
@[irreducible] noncomputable def T_is_book (p_thing : D) : Q Bool :=
  Q.bind (α := Bool) ((if (!(isiD "tuple" (eD p_thing))) = true then .ok true else (Q.of (lenT (eD p_thing))).bind fun (v_1 : Int) => .ok (!(decide (v_1 = 4))))) fun s_2 => (if s_2 = true then .ok false else (Q.of (un4 p_thing)).bind fun u_3 => Q.bind (α := Bool) ((T_is_within u_3.1 (eI 1) (eI 60)).bind fun (r_4 : Bool) => (if (!r_4) = true then .ok true else (T_is_within u_3.2.1 (eI 1) (eI 10)).bind fun (r_5 : Bool) => (if (!r_5) = true then .ok true else (T_are_spans u_3.2.2.1 u_3.1 u_3.2.1).bind fun (r_6 : Bool) => .ok (!r_6)))) fun s_7 => (if s_7 = true then .ok false else Q.bind (α := Bool) ((if (!(isiD "tuple" (eD u_3.2.2.2))) = true then .ok true else (Q.of (lenT (eD u_3.2.2.2))).bind fun (v_8 : Int) => .ok (decide (30 < v_8)))) fun s_9 => (if s_9 = true then .ok false else (Q.of (itT u_3.2.2.2)).bind fun (xs_10 : List D) => (compQ (γ := Bool) xs_10 (() : Unit) (fun (x_11 : D) (s_12 : Unit) => (T_is_bound x_11 u_3.2.1).bind fun (r_13 : Bool) => .ok (some r_13, ()))).bind fun c_14 => .ok (List.all c_14.1 id))))
@[irreducible] noncomputable def T_check_book (p_book : D) : Q Unit :=
  (T_is_book p_book).bind fun (r_1 : Bool) => (if (!r_1) = true then .exc { cls := "NoBook" } [] else .ok ())
@[irreducible] noncomputable def T_read_book (p_text : Str) : Q (Option (D × D × D × D)) :=
  (if (!true) = true then (Q.of (fldD (eI 0))).bind fun (v_1 : D) => .exc { cls := "NoText", fld := some ("row", v_1) } [] else (Q.ok ((some ((eI 1), (eI 1), (eT0 ()), (eT0 ()))) : (Option (D × D × D × D)))).bind fun book_2 => (Q.of (splitT p_text ("\n" : Str))).bind fun (v_3 : (List Str)) => (foldQ (enumT 0 v_3) (book_2 : (Option (D × D × D × D))) (fun (x_4 : (Int × Str)) (s_5 : (Option (D × D × D × D))) => (T_read_row x_4.2).bind fun (r_6 : (Option (Str × (List (Option Int))))) => (if (Option.isNone r_6) = true then (Q.of (fldD (eI x_4.1))).bind fun (v_7 : D) => .exc { cls := "NoText", fld := some ("row", v_7) } [] else (T_with_row s_5 x_4.1 r_6).bind fun (r_8 : (Option (D × D × D × D))) => Q.bind (α := Bool) ((if (Option.isNone r_8) = true then .ok true else (T_is_book ((eO (eT4 eD eD eD eD)) r_8)).bind fun (r_9 : Bool) => .ok (!r_9))) fun s_10 => (if s_10 = true then (Q.of (fldD (eI x_4.1))).bind fun (v_11 : D) => .exc { cls := "NoText", fld := some ("row", v_11) } [] else .ok r_8)))).bind fun (s_12 : (Option (D × D × D × D))) => (if (decide (((List.length v_3 : Nat) : Int) = 1)) = true then (Q.of (fldD (eI 0))).bind fun (v_13 : D) => .exc { cls := "NoText", fld := some ("row", v_13) } [] else .ok s_12))
@[irreducible] noncomputable def T_show_book (p_book : (Int × Int × (List (Int × Int × Int × Int)) × (List (Int × Int × Int)))) : Q Str :=
  (T_check_book ((eT4 eI eI (eV (eT4 eI eI eI eI)) (eV (eT3 eI eI eI))) p_book)).bind fun (r_1 : Unit) => (Q.of (fsT [(some ("hours " : Str)), (showT p_book.1)] Str.empty)).bind fun (v_2 : Str) => (Q.of (fsT [(some ("marks " : Str)), (showT p_book.2.1)] Str.empty)).bind fun (v_3 : Str) => (foldQ p_book.2.2.1 ([v_2, v_3] : (List Str)) (fun (x_4 : (Int × Int × Int × Int)) (s_5 : (List Str)) => (Q.of (fsT [(some ("span " : Str)), (showT x_4.1), (some (" " : Str)), (showT x_4.2.1), (some (" " : Str)), (showT x_4.2.2.1), (some (" " : Str)), (showT x_4.2.2.2)] Str.empty)).bind fun (v_6 : Str) => (Q.of (roomT (List.length s_5))).bind fun _ => .ok (s_5 ++ [v_6]))).bind fun (s_7 : (List Str)) => (foldQ p_book.2.2.2 (s_7 : (List Str)) (fun (x_8 : (Int × Int × Int)) (s_9 : (List Str)) => (Q.of (fsT [(some ("bound " : Str)), (showT x_8.1), (some (" " : Str)), (showT x_8.2.1), (some (" " : Str)), (showT x_8.2.2)] Str.empty)).bind fun (v_10 : Str) => (Q.of (roomT (List.length s_9))).bind fun _ => .ok (s_9 ++ [v_10]))).bind fun (s_11 : (List Str)) => (Q.of (joinT ("\n" : Str) s_11)).bind fun (v_12 : Str) => .ok v_12
@[irreducible] noncomputable def T_law_refused (p_rows_here : (List Str)) (p_row : Int) : Q Bool :=
  (Q.ok ((eN ()) : D)).bind fun caught_1 => Q.lf (σ := D) (ρ := Bool) (tryQ (mTab [("NoText", true)]) ((Q.of (joinT ("\n" : Str) p_rows_here)).bind fun (v_3 : Str) => ((T_read_book v_3).ex (fun es => [])).bind fun (r_2 : (Option (D × D × D × D))) => .ok (.nx caught_1)) (fun x_4 => (Q.of (xfD ["NoText"] "row" (some x_4))).bind fun (v_5 : D) => .ok (.nx v_5))) (fun s_6 => Q.bind (α := Bool) ((Q.of (eqB (eD s_6) (eI p_row))).bind fun (v_7 : Bool) => (if v_7 = true then .ok (!(isiD "bool" (eD s_6))) else .ok false)) fun s_8 => .ok s_8) (fun r => .ok r)
@[irreducible] noncomputable def T_law_reads (p_rows_here : (List Str)) (p_book_here : (Int × Int × (List (Int × Int × Int × Int)) × (List (Int × Int × Int)))) : Q Bool :=
  (Q.of (joinT ("\n" : Str) p_rows_here)).bind fun (v_1 : Str) => (T_read_book v_1).bind fun (r_2 : (Option (D × D × D × D))) => Q.bind (α := Bool) ((Q.of (eqB ((eO (eT4 eD eD eD eD)) r_2) ((eT4 eI eI (eV (eT4 eI eI eI eI)) (eV (eT3 eI eI eI))) p_book_here))).bind fun (v_3 : Bool) => (if v_3 = true then (if (isiD "tuple" ((eO (eT4 eD eD eD eD)) r_2)) = true then (T_show_book p_book_here).bind fun (r_4 : Str) => .ok (r_4 == v_1) else .ok false) else .ok false)) fun s_5 => .ok s_5
@[irreducible] noncomputable def T_law_begins_right (p_book_here : (Int × Int × (List (Int × Int × Int × Int)) × (List (Int × Int × Int)))) : Q Bool :=
  (T_law_rows p_book_here).bind fun (r_1 : (List Str)) => (Q.of (rgT 2 (((List.length r_1 : Nat) : Int) + 1))).bind fun (xs_2 : List Int) => (forQ (ρ := Bool) xs_2 (() : Unit) (fun (x_3 : Int) (s_4 : Unit) => (Q.ok ((x_3 - 2) : Int)).bind fun first_5 => (Q.ok ((p_book_here.1, p_book_here.2.1, (cutD p_book_here.2.2.1 none (some first_5)), (cutD p_book_here.2.2.2 none (some (max 0 (first_5 - ((List.length p_book_here.2.2.1 : Nat) : Int)))))) : (Int × Int × (List (Int × Int × Int × Int)) × (List (Int × Int × Int))))).bind fun some_6 => (T_law_reads (cutD r_1 none (some x_3)) some_6).bind fun (r_7 : Bool) => (if (!r_7) = true then .ok (.rt false) else .ok (.nx ())))).lf (fun (s_8 : Unit) => Q.bind (α := Bool) ((T_law_refused (cutD r_1 none (some 1)) 0).bind fun (r_9 : Bool) => (if r_9 = true then (T_law_refused [] 0).bind fun (r_10 : Bool) => .ok r_10 else .ok false)) fun s_11 => .ok s_11) (fun r => .ok r)
@[irreducible] noncomputable def T_law_turned_right (p_pool_here : (List Int)) (p_book_here : (Int × Int × (List (Int × Int × Int × Int)) × (List (Int × Int × Int)))) : Q (Bool × (List Int)) :=
  (T_law_take p_pool_here (((List.length p_book_here.2.2.2 : Nat) : Int) + 1)).noX.bind fun (r_1 : (Int × (List Int))) => (Q.of (roomT (List.length [(p_book_here.1, p_book_here.2.1, (List.reverse p_book_here.2.2.1), p_book_here.2.2.2)]))).bind fun _ => (Q.of (catT (cutD p_book_here.2.2.1 (some 1) none) (cutD p_book_here.2.2.1 none (some 1)))).bind fun (v_2 : (List (Int × Int × Int × Int))) => (Q.of (roomT (List.length ([(p_book_here.1, p_book_here.2.1, (List.reverse p_book_here.2.2.1), p_book_here.2.2.2)] ++ [(p_book_here.1, p_book_here.2.1, p_book_here.2.2.1, (List.reverse p_book_here.2.2.2))])))).bind fun _ => (Q.of (catT (cutD p_book_here.2.2.2 (some r_1.1) none) (cutD p_book_here.2.2.2 none (some r_1.1)))).bind fun (v_3 : (List (Int × Int × Int))) => (Q.of (roomT (List.length (([(p_book_here.1, p_book_here.2.1, (List.reverse p_book_here.2.2.1), p_book_here.2.2.2)] ++ [(p_book_here.1, p_book_here.2.1, p_book_here.2.2.1, (List.reverse p_book_here.2.2.2))]) ++ [(p_book_here.1, p_book_here.2.1, v_2, p_book_here.2.2.2)])))).bind fun _ => (compQ (γ := Bool) ((([(p_book_here.1, p_book_here.2.1, (List.reverse p_book_here.2.2.1), p_book_here.2.2.2)] ++ [(p_book_here.1, p_book_here.2.1, p_book_here.2.2.1, (List.reverse p_book_here.2.2.2))]) ++ [(p_book_here.1, p_book_here.2.1, v_2, p_book_here.2.2.2)]) ++ [(p_book_here.1, p_book_here.2.1, p_book_here.2.2.1, v_3)]) (() : Unit) (fun (x_4 : (Int × Int × (List (Int × Int × Int × Int)) × (List (Int × Int × Int)))) (s_5 : Unit) => (T_law_rows x_4).bind fun (r_7 : (List Str)) => ((T_law_reads r_7 x_4).ex (fun es => es)).bind fun (r_6 : Bool) => .ok (some r_6, ()))).bind fun c_8 => .ok ((List.all c_8.1 id), r_1.2)
@[irreducible] noncomputable def T_law_more_right (p_pool_here : (List Int)) (p_book_here : (Int × Int × (List (Int × Int × Int × Int)) × (List (Int × Int × Int)))) (p_other : (Int × Int × (List (Int × Int × Int × Int)) × (List (Int × Int × Int)))) : Q (Bool × (List Int)) :=
  (T_law_rows p_book_here).noX.bind fun (r_1 : (List Str)) => (T_law_rows p_other).noX.bind fun (r_2 : (List Str)) => (Q.of (catT r_1 r_2)).bind fun (v_4 : (List Str)) => (T_law_refused v_4 ((List.length r_1 : Nat) : Int)).noX.bind fun (r_3 : Bool) => (if (!r_3) = true then .ok (false, p_pool_here) else (Q.of (atI r_2 1)).bind fun (v_6 : Str) => (Q.of (catT r_1 [v_6])).bind fun (v_7 : (List Str)) => (T_law_refused v_7 ((List.length r_1 : Nat) : Int)).noX.bind fun (r_5 : Bool) => (if (!r_5) = true then .ok (false, p_pool_here) else Q.lf (σ := (List Int)) (ρ := (Bool × (List Int))) ((if (!(decide ((p_book_here.2.2.1 : (List (Int × Int × Int × Int))) = []))) = true then (T_law_take p_pool_here ((List.length p_book_here.2.2.1 : Nat) : Int)).noX.bind fun (r_8 : (Int × (List Int))) => (Q.ok ((2 + ((List.length p_book_here.2.2.1 : Nat) : Int)) : Int)).bind fun size_9 => (Q.of (atI r_1 (2 + r_8.1))).bind fun (v_10 : Str) => (Q.of (catT (cutD r_1 none (some size_9)) [v_10])).bind fun (v_11 : (List Str)) => (Q.of (catT v_11 (cutD r_1 (some size_9) none))).bind fun (v_12 : (List Str)) => (T_law_refused v_12 size_9).noX.bind fun (r_13 : Bool) => (if (!r_13) = true then .ok (.rt (false, r_8.2)) else (Q.of (atI r_1 (2 + r_8.1))).bind fun (v_15 : Str) => (Q.of (catT r_1 [v_15])).bind fun (v_16 : (List Str)) => (T_law_refused v_16 ((List.length r_1 : Nat) : Int)).noX.bind fun (r_14 : Bool) => (if (!r_14) = true then .ok (.rt (false, r_8.2)) else .ok (.nx r_8.2))) else .ok (.nx p_pool_here))) (fun s_17 => Q.lf (σ := (List Int)) (ρ := (Bool × (List Int))) ((if (!(decide ((p_book_here.2.2.2 : (List (Int × Int × Int))) = []))) = true then (T_law_take s_17 ((List.length p_book_here.2.2.2 : Nat) : Int)).noX.bind fun (r_18 : (Int × (List Int))) => (Q.of (atI p_book_here.2.2.2 r_18.1)).bind fun (v_19 : (Int × Int × Int)) => (Q.of (repVT [v_19] (30 - ((List.length p_book_here.2.2.2 : Nat) : Int)))).bind fun (v_20 : (List (Int × Int × Int))) => (Q.of (catT p_book_here.2.2.2 v_20)).bind fun (v_21 : (List (Int × Int × Int))) => (Q.ok ((p_book_here.1, p_book_here.2.1, p_book_here.2.2.1, v_21) : (Int × Int × (List (Int × Int × Int × Int)) × (List (Int × Int × Int))))).bind fun some_22 => (T_law_rows some_22).noX.bind fun (r_24 : (List Str)) => ((T_law_reads r_24 some_22).ex (fun es => [(O.lst (List.map eI r_18.2))])).bind fun (r_23 : Bool) => (if (!r_23) = true then .ok (.rt (false, r_18.2)) else (Q.of (catT v_21 (cutD v_21 none (some 2)))).bind fun (v_25 : (List (Int × Int × Int))) => (T_law_rows (p_book_here.1, p_book_here.2.1, p_book_here.2.2.1, v_25)).noX.bind fun (r_27 : (List Str)) => (T_law_refused r_27 (32 + ((List.length p_book_here.2.2.1 : Nat) : Int))).noX.bind fun (r_26 : Bool) => (if (!r_26) = true then .ok (.rt (false, r_18.2)) else (Q.ok ((p_book_here.1, p_book_here.2.1, (cutD p_book_here.2.2.1 none (some (-1))), p_book_here.2.2.2) : (Int × Int × (List (Int × Int × Int × Int)) × (List (Int × Int × Int))))).bind fun some_28 => (T_law_rows some_28).noX.bind fun (r_29 : (List Str)) => (Q.of (atI r_1 (1 + ((List.length p_book_here.2.2.1 : Nat) : Int)))).bind fun (v_30 : Str) => (Q.of (catT r_29 [v_30])).bind fun (v_31 : (List Str)) => Q.bind (α := Bool) ((if (!(decide ((p_book_here.2.2.1 : (List (Int × Int × Int × Int))) = []))) = true then (T_law_refused v_31 (((List.length r_1 : Nat) : Int) - 1)).noX.bind fun (r_32 : Bool) => .ok (!r_32) else .ok false)) fun s_33 => (if s_33 = true then .ok (.rt (false, r_18.2)) else .ok (.nx r_18.2)))) else .ok (.nx s_17))) (fun s_34 => .ok (true, s_34)) (fun r => .ok r)) (fun r => .ok r)))
@[irreducible] noncomputable def T_law (p_script : List Int) : Q Bool :=
  (Q.of (rgT3 0 (max 1 (min ((List.length p_script : Nat) : Int) 12)) 2)).bind fun (xs_1 : List Int) => (forQ (ρ := Bool) xs_1 (() : Unit) (fun (x_2 : Int) (s_3 : Unit) => (T_law_pool p_script x_2).noX.bind fun (r_4 : (List Int)) => (T_law_take r_4 8).noX.bind fun (r_5 : (Int × (List Int))) => (Q.of (atI [(6, 4, 8, 20), (10, 4, 30, 60)] (r_5.1 / 7))).bind fun (v_6 : (Int × Int × Int × Int)) => (T_law_book r_5.2 v_6.1 v_6.2.1 v_6.2.2.1 v_6.2.2.2).noX.bind fun (r_7 : ((Int × Int × (List (Int × Int × Int × Int)) × (List (Int × Int × Int))) × (List Int))) => (T_law_pool p_script (x_2 + 1)).noX.bind fun (r_9 : (List Int)) => (T_law_book r_9 6 4 8 20).noX.bind fun (r_8 : ((Int × Int × (List (Int × Int × Int × Int)) × (List (Int × Int × Int))) × (List Int))) => Q.bind (α := (Bool × (List Int))) ((T_law_begins_right r_7.1).bind fun (r_10 : Bool) => (if (!r_10) = true then .ok (true, r_7.2) else ((T_law_turned_right r_7.2 r_7.1).ex (fun es => [])).bind fun (r_11 : (Bool × (List Int))) => .ok ((!r_11.1), r_11.2))) fun s_12 => (if s_12.1 = true then .ok (.rt false) else ((T_law_more_right s_12.2 r_7.1 r_8.1).ex (fun es => [])).bind fun (r_13 : (Bool × (List Int))) => (if (!r_13.1) = true then .ok (.rt false) else (T_law_rows r_7.1).bind fun (r_15 : (List Str)) => ((T_law_reads r_15 r_7.1).ex (fun es => [])).bind fun (r_14 : Bool) => (if (!r_14) = true then .ok (.rt false) else .ok (.nx ())))))).lf (fun (s_16 : Unit) => .ok true) (fun r => .ok r)
end Law
namespace Law
open PySem L2 DL
theorem R_is_whole_d (p_x : D) : RFn F_is_whole [.dat (eD p_x)] (T_is_whole p_x) (fun (r : Bool) => SV.dat (eB r)) (fun (r : Bool) => []) := by
  unfold T_is_whole F_is_whole b_is_whole
  exact rf_fnA ([some (.dat (eD p_x))] : AS) [] (np_d np_n) rfl rfl
    (cb_ret (ce_pure (pe_and (pe_isi (PL.plr (PE1.pl (pe_var rfl)))) (pe_not (pe_isi (PL.plr (PE1.pl (pe_var rfl)))))) ⟨_, rfl, rfl, trivial⟩))
theorem R_spans_by_goal_D_d (p_spans : D) : RFn F_spans_by_goal [.dat (eD p_spans)] (T_spans_by_goal_D p_spans) (fun (r : (List (Int × Int))) => SV.dat ((eK eI) r)) (fun (r : (List (Int × Int))) => []) := by
  unfold T_spans_by_goal_D F_spans_by_goal b_spans_by_goal
  exact rf_fnA ([some (.dat (eD p_spans)), none, none, none] : AS) [] (np_d np_n) rfl rfl
    (cb_seq (cb_set (ce_dicM (.inr ⟨_, rfl, (cb_seq (cb_for (ci_enumD (ca_pure (pa_cons (pe_var rfl) pa_nil) ⟨_, _, rfl, rfl, fun xs_1 => (cl_foldI (σ := (List (Int × Int))) (eT2 eI eD) (fun (s : (List (Int × Int))) => ([some (.dat (eD p_spans)), some (.ob (O.dic (dicE eI s))), none, none] : AS)) (fun x_2 s_3 => (cg_tp rfl (cgs_cons (cg_nm (cgs_cons (cg_nm (cgs_nil (cb_putDX eI (ce_pure (pe_var rfl) ⟨IsOb.m rfl, (ce_ix (ce_pure (pe_var rfl) (ce_pure pe_c ⟨_, _, rfl, rfl, (fin_of eD (map_id' _) (fun v_4 => ⟨_, _, x_2.1, _, _, rfl, rfl, (.m rfl rfl), rfl, fun k_5 => ⟨_, rfl, (.keep (.keep (.drop (.drop .nil))))⟩⟩))⟩)))⟩))))))))) (fun s_6 => (cb_ret (ce_frz (ce_mut rfl (.inr (.inr ⟨_, _, rfl, rfl, ⟨_, rfl, rfl, trivial⟩⟩)))))) (enum_T eD xs_1) (.keep (.keep (.drop (.drop .nil)))))⟩))))⟩))))
theorem R_way_from_D_ddd (p_spans : D) (p_known : (List (Int × Int))) (p_mark : D) : RFn F_way_from [.dat (eD p_spans), .dat ((eK eI) p_known), .dat (eD p_mark)] (T_way_from_D p_spans p_known p_mark) (fun (r : (List Int)) => SV.dat ((eL eI) r)) (fun (r : (List Int)) => []) := by
  unfold T_way_from_D F_way_from b_way_from
  exact rf_fnA ([some (.dat (eD p_spans)), some (.dat ((eK eI) p_known)), some (.dat (eD p_mark)), none] : AS) [] (np_d (np_d (np_d np_n))) rfl rfl
    (cb_seq (cb_set (ce_lstM (ca_pure pa_nil ⟨[], rfl, leB rfl, (.inr ⟨_, rfl, (cb_seq (cl_whileI (σ := (D × (List Int))) (fun (s : (D × (List Int))) => ([some (.dat (eD p_spans)), some (.dat ((eK eI) p_known)), some (.dat (eD s.1)), some (.ob (O.lst (List.map eI s.2)))] : AS)) (fun s_1 => (ct_and (ct_of (ce_bin (ce_pure (pe_var rfl) (ce_pure (pe_var rfl) ⟨_, _, rfl, rfl, (fin_imp eB (o_inKX eI s_1.1 p_known) (fun v_2 => ⟨_, rfl, (and_ct (fun _ => (ct_of (ce_bin (ce_pure (pe_cb (pla_cons (PL.plr (pl_mut rfl)) pla_nil) (o_lenL eI s_1.2)) (ce_cb (ca_dat (ce_pure (pe_var rfl) ⟨_, rfl, (ca_nil ⟨_, (.cons rfl .nil), (fin_of eI (o_lenD _) (fun v_3 => ⟨_, _, rfl, rfl, (fin_ok rfl ⟨_, rfl, ⟨_, rfl, rfl, (.keep (.keep (.keep (.keep .nil))))⟩⟩)⟩))⟩)⟩))))))) (fun _ => ⟨_, rfl, rfl, (.keep (.keep (.keep (.keep .nil))))⟩))⟩))⟩)))))) (fun s_1 => (cb_seq (cb_app eI (.m rfl rfl) (ce_ix (ce_pure (pe_var rfl) (ce_pure (pe_var rfl) ⟨_, _, rfl, rfl, (fin_imp eI (o_ixKX eI p_known s_1.1) (fun v_4 => ⟨_, v_4, _, _, rfl, (.m rfl rfl), rfl, (cb_set (ce_ix (ce_ix (ce_pure (pe_var rfl) (ce_ix (ce_pure (pe_var rfl) (ce_pure (pe_var rfl) ⟨_, _, rfl, rfl, (fin_imp eI (o_ixKX eI p_known s_1.1) (fun v_5 => ⟨_, _, rfl, rfl, (fin_of eD (map_id' _) (fun v_6 => (ce_pure pe_c ⟨_, _, rfl, rfl, (fin_of eD (map_id' _) (fun v_7 => (.inl ⟨_, rfl, ⟨_, rfl, (.keep (.keep (.keep (.keep .nil))))⟩⟩)))⟩)))⟩))⟩)))))))⟩))⟩)))))) (fun s_8 => (cb_ret (ce_frz (ce_mut rfl (.inr (.inr ⟨_, _, rfl, rfl, ⟨_, rfl, rfl, trivial⟩⟩)))))) (.keep (.keep (.keep (.keep .nil))))))⟩)⟩))))
theorem R_read_number_d (p_word : Str) : RFn F_read_number [.dat (eS p_word)] (T_read_number p_word) (fun (r : (Option Int)) => SV.dat ((eO eI) r)) (fun (r : (Option Int)) => []) := by
  unfold T_read_number F_read_number b_read_number
  exact rf_fnA ([some (.dat (eS p_word)), none, none] : AS) [] (np_d np_n) rfl rfl
    (cb_seq (cb_set (ce_pure (pe_var rfl) (.inl ⟨_, rfl, (cb_seq (cb_join (σ := Str) (fun (s : Str) => ([some (.dat (eS p_word)), some (.dat (eS s)), none] : AS)) (cb_if (ct_of (ce_bin (ce_sl (ce_pure (pe_var rfl) ⟨_, _, _, po_none, (po_some pe_c), rfl, (fin_of eS (o_slS _ _ _) (fun v_1 => (ce_pure pe_c ⟨_, _, rfl, rfl, (fin_ok (o_eqS _ _) ⟨_, rfl, (cond_split (fun _ => (cb_set (ce_sl (ce_pure (pe_var rfl) ⟨_, _, _, (po_some pe_c), po_none, rfl, (fin_of eS (o_slS _ _ _) (fun v_2 => (.inl ⟨_, rfl, ⟨_, rfl, (.keep (.keep (.drop .nil)))⟩⟩)))⟩)))) (fun _ => (cb_nil ⟨_, rfl, (.keep (.keep (.drop .nil)))⟩)))⟩)⟩)))⟩))))) (fun s_3 => (cb_seq (cb_if (ct_join (σ := Bool) (fun s => s) (fun s => ([some (.dat (eS p_word)), some (.dat (eS s_3)), none] : AS)) (ct_or (ct_pure (pt_of (pe_bin (PE1.pl (pe_var rfl)) (PE1.pl pe_c) (o_eqS _ _))) (or_ct (fun _ => ⟨_, rfl, rfl, (.keep (.keep (.drop .nil)))⟩) (fun _ => (ct_not (ct_tru (ce_cb (ca_dat (ce_lc eB (tgin_nm (by decide)) (ci_str (ce_pure (pe_var rfl) ⟨_, _, rfl, rfl, fun xs_4 => ⟨Str, Unit, eS, (fun (s : Unit) => ([some (.dat (eS p_word)), some (.dat (eS s_3)), none] : AS)), _, _, _, _, rfl, (.keep (.keep (.drop .nil))), (hvs_cons (fun _ => rfl) hvs_nil), rfl, fun x_5 s_6 => (cg_nm (ct_pure pt_yes ⟨fun _ => (ce_bin (ce_pure (pe_var rfl) (ce_pure pe_c ⟨_, _, rfl, rfl, (fin_of eB (o_inX _ _) (fun v_7 => ⟨_, _, rfl, rfl, (.keep (.keep (.drop .nil)))⟩))⟩))), fun h => nomatch h⟩)), fun ys_9 s_10 => ⟨_, rfl, (ca_nil ⟨_, (.cons rfl .nil), (fin_ok (o_all ys_9) ⟨_, _, rfl, rfl, ⟨_, rfl, rfl, (.keep (.keep (.drop .nil)))⟩⟩)⟩)⟩⟩⟩))))))))))) (fun s_11 => (cond_split (fun _ => (cb_ret (ce_pure pe_c ⟨_, rfl, rfl, trivial⟩))) (fun _ => (cb_nil (cb_seq (cb_if (ct_join (σ := Bool) (fun s => s) (fun s => ([some (.dat (eS p_word)), some (.dat (eS s_3)), none] : AS)) (ct_and (ct_of (ce_bin (ce_ix (ce_pure (pe_var rfl) (ce_pure pe_c ⟨_, _, rfl, rfl, (fin_of eS (o_ixS _ _) (fun v_12 => (ce_pure pe_c ⟨_, _, rfl, rfl, (fin_ok (o_eqS _ _) ⟨_, rfl, (and_ct (fun _ => (ct_pure (pt_of (pe_bin (PE1.pl (pe_var rfl)) (PE1.pl pe_c) (o_neS _ _))) ⟨_, rfl, rfl, (.keep (.keep (.drop .nil)))⟩)) (fun _ => ⟨_, rfl, rfl, (.keep (.keep (.drop .nil)))⟩))⟩)⟩)))⟩)))))) (fun s_13 => (cond_split (fun _ => (cb_ret (ce_pure pe_c ⟨_, rfl, rfl, trivial⟩))) (fun _ => (cb_nil (cb_ret (ce_cb (ca_dat (ce_pure (pe_var rfl) ⟨_, rfl, (ca_nil ⟨_, (.cons rfl .nil), (fin_of eI (o_intS _) (fun v_14 => ⟨_, rfl, rfl, trivial⟩))⟩)⟩)))))))))))))))))))))⟩))))
theorem R_with_row_ddd (p_book : (Option (D × D × D × D))) (p_at : Int) (p_told : (Option (Str × (List (Option Int))))) : RFn F_with_row [.dat ((eO (eT4 eD eD eD eD)) p_book), .dat (eI p_at), .dat ((eO (eT2 eS (eV (eO eI)))) p_told)] (T_with_row p_book p_at p_told) (fun (r : (Option (D × D × D × D))) => SV.dat ((eO (eT4 eD eD eD eD)) r)) (fun (r : (Option (D × D × D × D))) => []) := by
  unfold T_with_row F_with_row b_with_row
  exact rf_fnA ([some (.dat ((eO (eT4 eD eD eD eD)) p_book)), some (.dat (eI p_at)), some (.dat ((eO (eT2 eS (eV (eO eI)))) p_told)), none, none] : AS) [] (np_d (np_d (np_d np_n))) rfl rfl
    (cb_seq (cb_asg (ce_pure (pe_var rfl) ⟨_, rfl, (cg_un (eT2 eS (eV (eO eI))) (fun _ h => congrArg (eO (eT2 eS (eV (eO eI)))) h) (fun u_1 => (cg_tp rfl (cgs_cons (cg_nm (cgs_cons (cg_nm (cgs_nil (cb_at ([some (.dat ((eO (eT4 eD eD eD eD)) p_book)), some (.dat (eI p_at)), some (.dat ((eO (eT2 eS (eV (eO eI)))) p_told)), some (.dat (eD (eS u_1.1))), some (.dat (eD ((eV (eO eI)) u_1.2)))] : AS) rfl (cb_seq (cb_if (ct_pure (pt_of (pe_bin (PE1.pl (pe_var rfl)) (PE1.pl pe_c) rfl)) (cond_split (fun _ => (cb_seq (cb_if (ct_of (ce_bin (ce_pure (pe_var rfl) (ce_ix (ce_pure (pe_lst (pa_cons pe_c (pa_cons pe_c pa_nil)) (leB rfl)) (ce_pure (pe_var rfl) ⟨_, _, rfl, rfl, (fin_of eS (o_ixL eS [("hours" : Str), ("marks" : Str)] p_at) (fun v_2 => ⟨_, _, rfl, rfl, (fin_of eB (o_neX _ _) (fun v_3 => ⟨_, rfl, (cond_split (fun _ => (cb_ret (ce_pure pe_c ⟨_, rfl, rfl, trivial⟩))) (fun _ => (cb_nil (cb_ret (ce_ix (ce_lst (ca_dat (ce_tup (ca_dat (ce_ix (ce_pure (pe_var rfl) (ce_pure pe_c ⟨_, _, rfl, rfl, (fin_of eD (map_id' _) (fun v_4 => ⟨_, rfl, (ca_dat (ce_pure pe_c ⟨_, rfl, (ca_dat (ce_pure (pe_tup pa_nil (leB rfl)) ⟨_, rfl, (ca_dat (ce_pure (pe_tup pa_nil (leB rfl)) ⟨_, rfl, (ca_nil ⟨[(eD v_4), (eI 1), (eT0 ()), (eT0 ())], rfl, leB rfl, ⟨_, rfl, (ca_dat (ce_tup (ca_dat (ce_ix (ce_opt (eT4 eD eD eD eD) (ce_pure (pe_var rfl) ⟨_, _, rfl, rfl, fun v_5 => (ce_pure pe_c ⟨_, _, rfl, rfl, (fin_ok rfl ⟨_, rfl, (ca_dat (ce_ix (ce_pure (pe_var rfl) (ce_pure pe_c ⟨_, _, rfl, rfl, (fin_of eD (map_id' _) (fun v_6 => ⟨_, rfl, (ca_dat (ce_pure (pe_tup pa_nil (leB rfl)) ⟨_, rfl, (ca_dat (ce_pure (pe_tup pa_nil (leB rfl)) ⟨_, rfl, (ca_nil ⟨[(eD v_5.1), (eD v_6), (eT0 ()), (eT0 ())], rfl, leB rfl, ⟨_, rfl, (ca_nil ⟨[((eT4 eD eI eT0 eT0) (v_4, 1, (), ())), ((eT4 eD eD eT0 eT0) (v_5.1, v_6, (), ()))], rfl, leB rfl, (ce_pure (pe_var rfl) ⟨_, _, rfl, rfl, (fin_of (eT4 eD eD eT0 eT0) (o_ixL (eT4 eD eD eT0 eT0) [(v_4, (eI 1), (), ()), (v_5.1, v_6, (), ())] p_at) (fun v_7 => ⟨_, rfl, rfl, trivial⟩))⟩)⟩)⟩⟩)⟩))⟩))⟩))⟩))))⟩)⟩)⟩))))))⟩⟩)⟩))⟩))⟩))⟩))⟩))))))))))))⟩))⟩))⟩))))))))) (fun _ => (cb_nil (cb_seq (cb_if (ct_join (σ := Bool) (fun s => s) (fun s => ([some (.dat ((eO (eT4 eD eD eD eD)) p_book)), some (.dat (eI p_at)), some (.dat ((eO (eT2 eS (eV (eO eI)))) p_told)), some (.dat (eD (eS u_1.1))), some (.dat (eD ((eV (eO eI)) u_1.2)))] : AS)) (ct_and (ct_of (ce_bin (ce_pure (pe_var rfl) (ce_pure pe_c ⟨_, _, rfl, rfl, (fin_of eB (o_eqX _ _) (fun v_8 => ⟨_, rfl, (and_ct (fun _ => (ct_of (ce_bin (ce_ix (ce_opt (eT4 eD eD eD eD) (ce_pure (pe_var rfl) ⟨_, _, rfl, rfl, fun v_9 => (ce_pure pe_c ⟨_, _, rfl, rfl, (fin_ok rfl (ce_pure (pe_tup pa_nil (leB rfl)) ⟨_, _, rfl, rfl, (fin_of eB (o_eqX _ _) (fun v_10 => ⟨_, rfl, ⟨_, rfl, rfl, (.keep (.keep (.keep (.keep (.keep .nil)))))⟩⟩))⟩))⟩)⟩)))))) (fun _ => ⟨_, rfl, rfl, (.keep (.keep (.keep (.keep (.keep .nil)))))⟩))⟩))⟩))))) (fun s_11 => (cond_split (fun _ => (cb_ret (ce_tup (ca_dat (ce_ix (ce_opt (eT4 eD eD eD eD) (ce_pure (pe_var rfl) ⟨_, _, rfl, rfl, fun v_12 => (ce_pure pe_c ⟨_, _, rfl, rfl, (fin_ok rfl ⟨_, rfl, (ca_dat (ce_ix (ce_opt (eT4 eD eD eD eD) (ce_pure (pe_var rfl) ⟨_, _, rfl, rfl, fun v_13 => (ce_pure pe_c ⟨_, _, rfl, rfl, (fin_ok rfl ⟨_, rfl, (ca_dat (ce_bin (ce_ix (ce_opt (eT4 eD eD eD eD) (ce_pure (pe_var rfl) ⟨_, _, rfl, rfl, fun v_14 => (ce_pure pe_c ⟨_, _, rfl, rfl, (fin_ok rfl (ce_pure (pe_tup (pa_cons (pe_var rfl) pa_nil) (leB rfl)) ⟨_, _, rfl, rfl, (fin_of eD (map_id' _) (fun v_15 => ⟨_, rfl, (ca_dat (ce_pure (pe_tup pa_nil (leB rfl)) ⟨_, rfl, (ca_nil ⟨[(eD v_12.1), (eD v_13.2.1), (eD v_15), (eT0 ())], rfl, leB rfl, ⟨_, rfl, rfl, trivial⟩⟩)⟩))⟩))⟩))⟩)⟩)))))⟩)⟩)⟩))))⟩)⟩)⟩))))))) (fun _ => (cb_nil (cb_seq (cb_if (ct_of (ce_bin (ce_pure (pe_var rfl) (ce_pure pe_c ⟨_, _, rfl, rfl, (fin_of eB (o_eqX _ _) (fun v_16 => ⟨_, rfl, (cond_split (fun _ => (cb_ret (ce_tup (ca_dat (ce_ix (ce_opt (eT4 eD eD eD eD) (ce_pure (pe_var rfl) ⟨_, _, rfl, rfl, fun v_17 => (ce_pure pe_c ⟨_, _, rfl, rfl, (fin_ok rfl ⟨_, rfl, (ca_dat (ce_ix (ce_opt (eT4 eD eD eD eD) (ce_pure (pe_var rfl) ⟨_, _, rfl, rfl, fun v_18 => (ce_pure pe_c ⟨_, _, rfl, rfl, (fin_ok rfl ⟨_, rfl, (ca_dat (ce_ix (ce_opt (eT4 eD eD eD eD) (ce_pure (pe_var rfl) ⟨_, _, rfl, rfl, fun v_19 => (ce_pure pe_c ⟨_, _, rfl, rfl, (fin_ok rfl ⟨_, rfl, (ca_dat (ce_bin (ce_ix (ce_opt (eT4 eD eD eD eD) (ce_pure (pe_var rfl) ⟨_, _, rfl, rfl, fun v_20 => (ce_pure pe_c ⟨_, _, rfl, rfl, (fin_ok rfl (ce_pure (pe_tup (pa_cons (pe_var rfl) pa_nil) (leB rfl)) ⟨_, _, rfl, rfl, (fin_of eD (map_id' _) (fun v_21 => ⟨_, rfl, (ca_nil ⟨[(eD v_17.1), (eD v_18.2.1), (eD v_19.2.2.1), (eD v_21)], rfl, leB rfl, ⟨_, rfl, rfl, trivial⟩⟩)⟩))⟩))⟩)⟩)))))⟩)⟩)⟩))))⟩)⟩)⟩))))⟩)⟩)⟩))))))) (fun _ => (cb_nil (cb_ret (ce_pure pe_c ⟨_, rfl, rfl, trivial⟩)))))⟩))⟩))))))))))))))))))))))))))))⟩)))
theorem R_law_pool_sd (p_script : List Int) (p_k : Int) : RFn F__law_pool [.scr (List.map PyData.int p_script), .dat (eI p_k)] (T_law_pool p_script p_k) (fun (r : (List Int)) => SV.ob (O.lst (List.map eI r))) (fun (r : (List Int)) => []) := by
  unfold T_law_pool F__law_pool b__law_pool
  exact rf_fnA ([some (.scr (List.map PyData.int p_script)), some (.dat (eI p_k)), none, none, none, none] : AS) [] (np_s (np_d np_n)) rfl rfl
    (cb_seq (cb_setP eI (pe_cb (pla_cons (PL.plr (PE1.pl (pe_sl (plr_scr rfl) (po_some (pe_var rfl)) (po_some (pe_bin (PE1.pl (pe_var rfl)) (PE1.pl pe_c) rfl)) (o_slL eI p_script _ _)))) pla_nil) (o_sum (cutD p_script (some p_k) (some (p_k + 1))))) (fun cell_1 => (cb_seq (cb_if (ct_pure (pt_or (pt_of (pe_bin (PE1.pl (pe_var rfl)) (PE1.pl pe_c) rfl)) (pt_of (pe_bin (PE1.pl (pe_var rfl)) (PE1.pl (pe_bin (PE1.pl pe_c) (PE1.pl pe_c) rfl)) rfl))) (cond_split (fun _ => (cb_ret (ce_lstM (ca_dat (ce_bin (ce_pure (pe_cb (pla_cons (PL.plr (PE1.pl (pe_var rfl))) pla_nil) (o_abs _)) (ce_pure pe_p384 ⟨_, _, rfl, rfl, (fin_of eI (o_modT _ _) (fun v_2 => ⟨_, rfl, (ca_nil ⟨[(eI v_2)], rfl, leB rfl, ⟨_, rfl, rfl, trivial⟩⟩)⟩))⟩))))))) (fun _ => (cb_nil (cb_seq (cb_set (ce_bin (ce_bin (ce_pure (pe_bin (PE1.pl (pe_var rfl)) (PE1.pl pe_c) (mulD_r rfl)) (ce_bin (ce_pure (pe_bin (PE1.pl pe_c) (PE1.pl (pe_var rfl)) (mulD_l rfl)) (ce_pure (pe_var rfl) ⟨_, _, rfl, rfl, (fin_of eI (o_mulT _ _) (fun v_3 => ⟨_, _, rfl, rfl, (fin_ok rfl (ce_pure pe_c ⟨_, _, rfl, rfl, (fin_ok rfl (.inl ⟨_, rfl, (cb_seq (cb_set (ce_pure pe_c (.inl ⟨_, rfl, (cb_seq (cb_for (ci_r1 (ca_pure (pa_cons pe_c pa_nil) ⟨_, _, rfl, rfl, fun xs_4 => (cl_foldI (σ := (Int × Int)) eI (fun (s : (Int × Int)) => ([some (.scr (List.map PyData.int p_script)), some (.dat (eI p_k)), some (.dat (eI cell_1)), some (.dat (eI s.1)), some (.dat (eI s.2)), none] : AS)) (fun x_5 s_6 => (cg_nm (cb_seq (cb_setP eI (pe_bin (PE1.pl (pe_bin (PE1.pl (pe_bin (PE1.pl (pe_bin (PE1.pl (pe_bin (PE1.pl (pe_var rfl)) (PE1.pl pe_c) (modD_ok (by decide)))) (PE1.pl pe_c) (mulD_r rfl))) (PE1.pl (pe_bin (PE1.pl pe_c) (PE1.pl (pe_var rfl)) (mulD_l rfl))) rfl)) (PE1.pl pe_c) rfl)) (PE1.pl pe_c) (modD_ok (by decide))) (fun more_7 => (cb_set (ce_bin (ce_bin (ce_pure (pe_var rfl) (ce_pure (pe_bin (PE1.pl pe_c) (PE1.pl pe_c) rfl) ⟨_, _, rfl, rfl, (fin_of eI (o_mulT _ _) (fun v_8 => (ce_bin (ce_bin (ce_pure (pe_var rfl) (ce_pure (pe_bin (PE1.pl (pe_bin (PE1.pl (pe_var rfl)) (PE1.pl pe_c) (modD_ok (by decide)))) (PE1.pl pe_c) rfl) ⟨_, _, rfl, rfl, (fin_of eI (o_mulT _ _) (fun v_9 => (ce_pure pe_c ⟨_, _, rfl, rfl, (fin_ok (modD_ok (by decide)) ⟨_, _, rfl, rfl, (fin_ok rfl (.inl ⟨_, rfl, ⟨_, rfl, (.keep (.keep (.keep (.keep (.keep (.drop .nil))))))⟩⟩))⟩)⟩)))⟩))))))⟩)))))))))) (fun s_10 => (cb_ret (ce_lstM (ca_pure (pa_cons (pe_var rfl) pa_nil) ⟨[(eI s_10.2)], rfl, leB rfl, ⟨_, rfl, rfl, trivial⟩⟩)))) rfl (.keep (.keep (.keep (.keep (.keep (.drop .nil)))))))⟩))))⟩))))⟩))⟩))⟩))⟩)))))))))))))))))
theorem R_law_take_od (p_pool_here : (List Int)) (p_many : Int) : RFn F__law_take [.ob (O.lst (List.map eI p_pool_here)), .dat (eI p_many)] (T_law_take p_pool_here p_many) (fun (r : (Int × (List Int))) => SV.dat (eI r.1)) (fun (r : (Int × (List Int))) => [(O.lst (List.map eI r.2))]) := by
  unfold T_law_take F__law_take b__law_take
  exact rf_fnA ([some (.par 0 (O.lst (List.map eI p_pool_here))), some (.dat (eI p_many)), none] : AS) [0] (np_o (np_d np_n)) rfl rfl
    (cb_seq (cb_asg (ce_cb (ca_dat (ce_ix (ce_par rfl (ce_pure pe_c ⟨_, _, ⟨_, .inr ⟨_, rfl⟩, rfl⟩, rfl, (fin_of eI (o_ixL eI p_pool_here 0) (fun v_1 => ⟨_, rfl, (ca_dat (ce_pure (pe_var rfl) ⟨_, rfl, (ca_nil ⟨_, (.cons rfl (.cons rfl .nil)), (fin_of (eT2 eI eI) (o_divmodT _ _) (fun v_2 => ⟨_, rfl, (cg_tp rfl (cgs_cons (cg_put eI (.p _ rfl rfl) pe_c (fun pool_here_3 => (cgs_cons (cg_nm (cgs_nil (cb_at ([some (.par 0 (O.lst (List.map eI pool_here_3))), some (.dat (eI p_many)), some (.dat (eI v_2.2))] : AS) rfl (cb_ret (ce_pure (pe_var rfl) ⟨_, rfl, rfl, ⟨rfl, trivial⟩⟩))))))))))⟩))⟩)⟩))⟩))⟩)))))))
theorem R_law_rows_d (p_book_here : (Int × Int × (List (Int × Int × Int × Int)) × (List (Int × Int × Int)))) : RFn F__law_rows [.dat ((eT4 eI eI (eV (eT4 eI eI eI eI)) (eV (eT3 eI eI eI))) p_book_here)] (T_law_rows p_book_here) (fun (r : (List Str)) => SV.dat ((eL eS) r)) (fun (r : (List Str)) => []) := by
  unfold T_law_rows F__law_rows b__law_rows
  exact rf_fnA ([some (.dat ((eT4 eI eI (eV (eT4 eI eI eI eI)) (eV (eT3 eI eI eI))) p_book_here)), none, none, none, none, none, none, none, none] : AS) [] (np_d np_n) rfl rfl
    (cb_seq (cb_asg (ce_pure (pe_var rfl) ⟨_, rfl, (cg_tp rfl (cgs_cons (cg_nm (cgs_cons (cg_nm (cgs_cons (cg_nm (cgs_cons (cg_nm (cgs_nil (cb_at ([some (.dat ((eT4 eI eI (eV (eT4 eI eI eI eI)) (eV (eT3 eI eI eI))) p_book_here)), some (.dat (eI p_book_here.1)), some (.dat (eI p_book_here.2.1)), some (.dat ((eV (eT4 eI eI eI eI)) p_book_here.2.2.1)), some (.dat ((eV (eT3 eI eI eI)) p_book_here.2.2.2)), none, none, none, none] : AS) rfl (cb_seq (cb_set (ce_lstM (ca_dat (ce_bin (ce_pure pe_c (ce_cb (ca_dat (ce_pure (pe_var rfl) ⟨_, rfl, (ca_nil ⟨_, (.cons rfl .nil), (fin_of eS (o_show _) (fun v_1 => ⟨_, _, rfl, rfl, (fin_of eS (o_catS _ _) (fun v_2 => ⟨_, rfl, (ca_dat (ce_bin (ce_pure pe_c (ce_cb (ca_dat (ce_pure (pe_var rfl) ⟨_, rfl, (ca_nil ⟨_, (.cons rfl .nil), (fin_of eS (o_show _) (fun v_3 => ⟨_, _, rfl, rfl, (fin_of eS (o_catS _ _) (fun v_4 => ⟨_, rfl, (ca_nil ⟨[(eS v_2), (eS v_4)], rfl, leB rfl, (.inr ⟨_, rfl, (cb_seq (cb_for (ci_seq (ce_pure (pe_var rfl) ⟨_, .inr (.inl rfl), (cl_foldI (σ := (List Str)) (eT4 eI eI eI eI) (fun (s : (List Str)) => ([some (.dat ((eT4 eI eI (eV (eT4 eI eI eI eI)) (eV (eT3 eI eI eI))) p_book_here)), some (.dat (eI p_book_here.1)), some (.dat (eI p_book_here.2.1)), some (.dat ((eV (eT4 eI eI eI eI)) p_book_here.2.2.1)), some (.dat ((eV (eT3 eI eI eI)) p_book_here.2.2.2)), some (.ob (O.lst (List.map eS s))), none, none, none] : AS)) (fun x_5 s_6 => (cg_nm (cb_app eS (.m rfl rfl) (ce_bin (ce_pure pe_c (ce_sm (ce_pure pe_c ⟨⟨_, rfl⟩, (ce_lc eS (tgin_nm (by decide)) (ci_seq (ce_pure (pe_var rfl) ⟨_, .inr (.inl rfl), ⟨Int, Unit, eI, (fun (s : Unit) => ([some (.dat ((eT4 eI eI (eV (eT4 eI eI eI eI)) (eV (eT3 eI eI eI))) p_book_here)), some (.dat (eI p_book_here.1)), some (.dat (eI p_book_here.2.1)), some (.dat ((eV (eT4 eI eI eI eI)) p_book_here.2.2.1)), some (.dat ((eV (eT3 eI eI eI)) p_book_here.2.2.2)), some (.ob (O.lst (List.map eS s_6))), some (.dat ((eT4 eI eI eI eI) x_5)), none, none] : AS)), _, _, _, _, rfl, (.keep (.keep (.keep (.keep (.keep (.keep (.keep (.drop (.drop .nil))))))))), (hvs_cons (fun _ => rfl) hvs_nil), rfl, fun x_7 s_8 => (cg_nm (ct_pure pt_yes ⟨fun _ => (ce_cb (ca_dat (ce_pure (pe_var rfl) ⟨_, rfl, (ca_nil ⟨_, (.cons rfl .nil), (fin_of eS (o_show _) (fun v_9 => ⟨_, _, rfl, rfl, (.keep (.keep (.keep (.keep (.keep (.keep (.keep (.drop (.drop .nil)))))))))⟩))⟩)⟩))), fun h => nomatch h⟩)), fun ys_13 s_14 => ⟨_, _, rfl, rfl, (fin_of eS (o_joinL _ _) (fun v_11 => ⟨_, _, rfl, rfl, (fin_of eS (o_catS _ _) (fun v_12 => ⟨_, v_12, _, _, rfl, (.m rfl rfl), rfl, ⟨_, rfl, (.keep (.keep (.keep (.keep (.keep (.keep (.drop (.drop (.drop .nil)))))))))⟩⟩))⟩))⟩⟩⟩)))⟩))))))) (fun s_15 => (cb_frz rfl (cb_ret (ce_bin (ce_pure (pe_var rfl) (ce_lc eS (tgin_nm (by decide)) (ci_seq (ce_pure (pe_var rfl) ⟨_, .inr (.inl rfl), ⟨(Int × Int × Int), Unit, (eT3 eI eI eI), (fun (s : Unit) => ([some (.dat ((eT4 eI eI (eV (eT4 eI eI eI eI)) (eV (eT3 eI eI eI))) p_book_here)), some (.dat (eI p_book_here.1)), some (.dat (eI p_book_here.2.1)), some (.dat ((eV (eT4 eI eI eI eI)) p_book_here.2.2.1)), some (.dat ((eV (eT3 eI eI eI)) p_book_here.2.2.2)), some (.dat ((eL eS) s_15)), none, none, none] : AS)), _, _, _, _, rfl, (.keep (.keep (.keep (.keep (.keep (.keep (.drop (.drop (.drop .nil))))))))), (hvs_cons (fun _ => rfl) hvs_nil), rfl, fun x_16 s_17 => (cg_nm (ct_pure pt_yes ⟨fun _ => (ce_bin (ce_pure pe_c (ce_sm (ce_pure pe_c ⟨⟨_, rfl⟩, (ce_lc eS (tgin_nm (by decide)) (ci_seq (ce_pure (pe_var rfl) ⟨_, .inr (.inl rfl), ⟨Int, Unit, eI, (fun (s : Unit) => ([some (.dat ((eT4 eI eI (eV (eT4 eI eI eI eI)) (eV (eT3 eI eI eI))) p_book_here)), some (.dat (eI p_book_here.1)), some (.dat (eI p_book_here.2.1)), some (.dat ((eV (eT4 eI eI eI eI)) p_book_here.2.2.1)), some (.dat ((eV (eT3 eI eI eI)) p_book_here.2.2.2)), some (.dat ((eL eS) s_15)), none, none, some (.dat ((eT3 eI eI eI) x_16))] : AS)), _, _, _, _, rfl, (.keep (.keep (.keep (.keep (.keep (.keep (.drop (.drop (.keep .nil))))))))), (hvs_cons (fun _ => rfl) hvs_nil), rfl, fun x_18 s_19 => (cg_nm (ct_pure pt_yes ⟨fun _ => (ce_cb (ca_dat (ce_pure (pe_var rfl) ⟨_, rfl, (ca_nil ⟨_, (.cons rfl .nil), (fin_of eS (o_show _) (fun v_20 => ⟨_, _, rfl, rfl, (.keep (.keep (.keep (.keep (.keep (.keep (.drop (.drop (.keep .nil)))))))))⟩))⟩)⟩))), fun h => nomatch h⟩)), fun ys_24 s_25 => ⟨_, _, rfl, rfl, (fin_of eS (o_joinL _ _) (fun v_22 => ⟨_, _, rfl, rfl, (fin_of eS (o_catS _ _) (fun v_23 => ⟨_, _, rfl, rfl, (.keep (.keep (.keep (.keep (.keep (.keep (.drop (.drop (.drop .nil)))))))))⟩))⟩))⟩⟩⟩)))⟩)))), fun h => nomatch h⟩)), fun ys_28 s_29 => ⟨_, _, rfl, rfl, (fin_of (eL eS) (o_catL eS s_15 ys_28) (fun v_27 => ⟨_, rfl, rfl, trivial⟩))⟩⟩⟩)))))))) rfl (.keep (.keep (.keep (.keep (.keep (.keep (.drop (.drop (.drop .nil))))))))))⟩))))⟩)⟩)⟩))⟩))⟩)⟩))))))⟩))⟩))⟩)⟩))))))))))))))))))))⟩)))
theorem R_is_within_ddd (p_x : D) (p_least : D) (p_most : D) : RFn F_is_within [.dat (eD p_x), .dat (eD p_least), .dat (eD p_most)] (T_is_within p_x p_least p_most) (fun (r : Bool) => SV.dat (eB r)) (fun (r : Bool) => []) := by
  unfold T_is_within F_is_within b_is_within
  exact rf_fnA ([some (.dat (eD p_x)), some (.dat (eD p_least)), some (.dat (eD p_most))] : AS) [] (np_d (np_d (np_d np_n))) rfl rfl
    (cb_ret (ce_join (σ := Bool) (fun s => (eB s)) (fun s => ([some (.dat (eD p_x)), some (.dat (eD p_least)), some (.dat (eD p_most))] : AS)) (ce_and (ce_call0 (pa_cons (pe_var rfl) pa_nil) rfl (R_is_whole_d p_x) (fun r_1 => ⟨_, rfl, and_ce (fun _ => (ce_chainQ (ce_pure (pe_var rfl) (ce_pure (pe_var rfl) ⟨_, _, _, _, rfl, rfl, (o_cmpT _ _ _), rfl, fun p_3 => ch_ce (fun _ => (ce_pure (pe_var rfl) ⟨_, rfl, (fin_of eB (o_cmpT _ _ _) (fun v_2 => ⟨_, rfl, rfl, (.keep (.keep (.keep .nil)))⟩))⟩)) (fun _ => ⟨_, rfl, rfl, (.keep (.keep (.keep .nil)))⟩)⟩)))) (fun _ => ⟨_, rfl, rfl, (.keep (.keep (.keep .nil)))⟩)⟩) trivial)) (fun s_4 => ⟨_, rfl, rfl, trivial⟩)))
theorem R_read_row_d (p_row : Str) : RFn F_read_row [.dat (eS p_row)] (T_read_row p_row) (fun (r : (Option (Str × (List (Option Int))))) => SV.dat ((eO (eT2 eS (eV (eO eI)))) r)) (fun (r : (Option (Str × (List (Option Int))))) => []) := by
  unfold T_read_row F_read_row b_read_row
  exact rf_fnA ([some (.dat (eS p_row)), none, none, none] : AS) [] (np_d np_n) rfl rfl
    (cb_seq (cb_set (ce_sm (ce_pure (pe_var rfl) ⟨⟨_, rfl⟩, (ce_pure pe_c ⟨_, _, rfl, rfl, (fin_of (eL eS) (o_split _ _) (fun v_1 => (.inl ⟨_, rfl, (cb_seq (cb_set (ce_cb (ca_dat (ce_lc (eO eI) (tgin_nm (by decide)) (ci_seq (ce_pure (pe_sl (PL.plr (PE1.pl (pe_var rfl))) (po_some pe_c) po_none (o_slL eS v_1 _ _)) ⟨_, .inl rfl, ⟨Str, Unit, eS, (fun (s : Unit) => ([some (.dat (eS p_row)), some (.dat ((eL eS) v_1)), none, none] : AS)), _, _, _, _, rfl, (.keep (.keep (.drop (.drop .nil)))), (hvs_cons (fun _ => rfl) hvs_nil), rfl, fun x_2 s_3 => (cg_nm (ct_pure pt_yes ⟨fun _ => (ce_call0 (pa_cons (pe_var rfl) pa_nil) rfl (R_read_number_d x_2) (fun r_4 => ⟨_, _, rfl, rfl, (.keep (.keep (.drop (.drop .nil))))⟩) trivial), fun h => nomatch h⟩)), fun ys_10 s_11 => ⟨_, rfl, (ca_nil ⟨_, (.cons rfl .nil), (fin_ok rfl (.inl ⟨_, rfl, (cb_seq (cb_if (ct_join (σ := Bool) (fun s => s) (fun s => ([some (.dat (eS p_row)), some (.dat ((eL eS) v_1)), some (.dat ((eV (eO eI)) ys_10)), none] : AS)) (ct_or (ct_of (ce_bin (ce_wgetO (ce_ix (ce_pure (pe_var rfl) (ce_pure pe_c ⟨_, _, rfl, rfl, (fin_of eS (o_ixL eS v_1 0) (fun v_6 => ⟨_, rfl, (ce_pure (pe_cb (pla_cons (PL.plr (PE1.pl (pe_var rfl))) pla_nil) (o_lenV (eO eI) ys_10)) ⟨_, _, rfl, rfl, (fin_ok (o_neE (a := (eO eI)) eqE_O_I (leB rfl) (wgetO [("hours", 1), ("marks", 1), ("span", 4), ("bound", 3)] v_6) (some ((List.length ys_10 : Nat) : Int))) ⟨_, rfl, (or_ct (fun _ => ⟨_, rfl, rfl, (.keep (.keep (.keep (.drop .nil))))⟩) (fun _ => (ct_of (ce_bin (ce_pure pe_c (ce_pure (pe_var rfl) ⟨_, _, rfl, rfl, (fin_of eB (o_inX _ _) (fun v_7 => ⟨_, rfl, ⟨_, rfl, rfl, (.keep (.keep (.keep (.drop .nil))))⟩⟩))⟩))))))⟩)⟩)⟩))⟩))))))) (fun s_8 => (cond_split (fun _ => (cb_ret (ce_pure pe_c ⟨_, rfl, rfl, trivial⟩))) (fun _ => (cb_nil (cb_ret (ce_tup (ca_dat (ce_ix (ce_pure (pe_var rfl) (ce_pure pe_c ⟨_, _, rfl, rfl, (fin_of eS (o_ixL eS v_1 0) (fun v_9 => ⟨_, rfl, (ca_dat (ce_pure (pe_var rfl) ⟨_, rfl, (ca_nil ⟨[(eS v_9), ((eV (eO eI)) ys_10)], rfl, leB rfl, ⟨_, rfl, rfl, trivial⟩⟩)⟩))⟩))⟩)))))))))))))⟩))⟩)⟩⟩⟩)))))))⟩)))⟩)⟩))))
theorem R_law_spans_oddd (p_pool_here : (List Int)) (p_many : Int) (p_end : Int) (p_most : Int) : RFn F__law_spans [.ob (O.lst (List.map eI p_pool_here)), .dat (eI p_many), .dat (eI p_end), .dat (eI p_most)] (T_law_spans p_pool_here p_many p_end p_most) (fun (r : ((List (Int × Int × Int × Int)) × (List Int))) => SV.dat ((eV (eT4 eI eI eI eI)) r.1)) (fun (r : ((List (Int × Int × Int × Int)) × (List Int))) => [(O.lst (List.map eI r.2))]) := by
  unfold T_law_spans F__law_spans b__law_spans
  exact rf_fnA ([some (.par 0 (O.lst (List.map eI p_pool_here))), some (.dat (eI p_many)), some (.dat (eI p_end)), some (.dat (eI p_most)), none, none, none, none, none, none, none, none] : AS) [0] (np_o (np_d (np_d (np_d np_n)))) rfl rfl
    (cb_seq (cb_set (ce_lstM (ca_pure pa_nil ⟨[], rfl, leB rfl, (.inr ⟨_, rfl, (cb_seq (cb_set (ce_dicM (.inr ⟨_, rfl, (cb_seq (cb_for (ci_r1 (ca_dat (ce_callN (ca_sl (IsOb.p rfl) (ca_dat (ce_pure (pe_bin (PE1.pl (pe_var rfl)) (PE1.pl pe_c) rfl) ⟨_, rfl, (ca_nil ⟨(IsOb.p rfl), ⟨_, _, _, _, _, _, rfl, (.slp rfl (.dat .nil)), rfl, (show List.Nodup [0] from by decide), R_law_take_od p_pool_here (p_most + 1), fun r_1 => ⟨_, rfl, (ca_nil ⟨_, _, rfl, rfl, fun xs_2 => (cl_foldI (σ := ((List Int) × (List (Int × Int × Int × Int)) × (List (Int × Int)))) eI (fun (s : ((List Int) × (List (Int × Int × Int × Int)) × (List (Int × Int)))) => ([some (.par 0 (O.lst (List.map eI s.1))), some (.dat (eI p_many)), some (.dat (eI p_end)), some (.dat (eI p_most)), some (.ob (O.lst (List.map (eT4 eI eI eI eI) s.2.1))), some (.ob (O.dic (dicE eI s.2.2))), none, none, none, none, none, none] : AS)) (fun x_3 s_4 => (cg_nm (cb_seq (cb_par (ca_dat (ce_callN (ca_sl (IsOb.p rfl) (ca_dat (ce_pure (pe_var rfl) ⟨_, rfl, (ca_nil ⟨(IsOb.p rfl), ⟨_, _, _, _, _, _, rfl, (.slp rfl (.dat .nil)), rfl, (show List.Nodup [0] from by decide), R_law_take_od s_4.1 p_many, fun r_5 => ⟨_, rfl, (ca_dat (ce_callN (ca_sl (IsOb.p rfl) (ca_dat (ce_pure (pe_var rfl) ⟨_, rfl, (ca_nil ⟨(IsOb.p rfl), ⟨_, _, _, _, _, _, rfl, (.slp rfl (.dat .nil)), rfl, (show List.Nodup [0] from by decide), R_law_take_od r_5.2 p_many, fun r_6 => ⟨_, rfl, (ca_nil ⟨[(eI r_5.1), (eI r_6.1)], rfl, rfl, (cb_at ([some (.par 0 (O.lst (List.map eI r_6.2))), some (.dat (eI p_many)), some (.dat (eI p_end)), some (.dat (eI p_most)), some (.ob (O.lst (List.map (eT4 eI eI eI eI) s_4.2.1))), some (.ob (O.dic (dicE eI s_4.2.2))), some (.dat (eI x_3)), some (.dat (eI r_5.1)), some (.dat (eI r_6.1)), none, none, none] : AS) rfl (cb_seq (cb_set (ce_bin (ce_pure pe_c (ce_callN (ca_sl (IsOb.p rfl) (ca_dat (ce_ix (ce_pure (pe_lst (pa_cons (pe_cb (pla_cons (PL.plr (PE1.pl pe_c)) (pla_cons (PL.plr (PE1.pl (pe_var rfl))) pla_nil)) (o_min2 _ _)) (pa_cons (pe_var rfl) pa_nil)) (leB rfl)) (ce_callN (ca_sl (IsOb.p rfl) (ca_dat (ce_pure pe_c ⟨_, rfl, (ca_nil ⟨(IsOb.p rfl), ⟨_, _, _, _, _, _, rfl, (.slp rfl (.dat .nil)), rfl, (show List.Nodup [0] from by decide), R_law_take_od r_6.2 2, fun r_8 => ⟨_, _, rfl, rfl, (fin_of eI (o_ixL eI [(min 3 p_end), p_end] r_8.1) (fun v_9 => ⟨_, rfl, (ca_nil ⟨(IsOb.p rfl), ⟨_, _, _, _, _, _, rfl, (.slp rfl (.dat .nil)), rfl, (show List.Nodup [0] from by decide), R_law_take_od r_8.2 v_9, fun r_7 => ⟨_, _, rfl, rfl, (fin_ok rfl (.inl ⟨_, rfl, (cb_seq (cb_set (ce_cb (ca_dat (ce_pure (pe_var rfl) ⟨_, rfl, (ca_dat (ce_bin (ce_pure (pe_var rfl) (ce_callN (ca_sl (IsOb.p rfl) (ca_dat (ce_ix (ce_pure (pe_lst (pa_cons pe_c (pa_cons pe_c (pa_cons (pe_var rfl) pa_nil))) (leB rfl)) (ce_callN (ca_sl (IsOb.p rfl) (ca_dat (ce_pure pe_c ⟨_, rfl, (ca_nil ⟨(IsOb.p rfl), ⟨_, _, _, _, _, _, rfl, (.slp rfl (.dat .nil)), rfl, (show List.Nodup [0] from by decide), R_law_take_od r_7.2 3, fun r_11 => ⟨_, _, rfl, rfl, (fin_of eI (o_ixL eI [1, 4, p_end] r_11.1) (fun v_12 => ⟨_, rfl, (ca_nil ⟨(IsOb.p rfl), ⟨_, _, _, _, _, _, rfl, (.slp rfl (.dat .nil)), rfl, (show List.Nodup [0] from by decide), R_law_take_od r_11.2 v_12, fun r_10 => ⟨_, _, rfl, rfl, (fin_ok rfl ⟨_, rfl, (ca_nil ⟨_, (.cons rfl (.cons rfl .nil)), (fin_ok (o_min2 _ _) (.inl ⟨_, rfl, (cb_seq (cb_set (ce_pure (pe_var rfl) (.inl ⟨_, rfl, (cb_seq (cl_whileI (σ := Int) (fun (s : Int) => ([some (.par 0 (O.lst (List.map eI r_10.2))), some (.dat (eI p_many)), some (.dat (eI p_end)), some (.dat (eI p_most)), some (.ob (O.lst (List.map (eT4 eI eI eI eI) s_4.2.1))), some (.ob (O.dic (dicE eI s_4.2.2))), some (.dat (eI x_3)), some (.dat (eI r_5.1)), some (.dat (eI r_6.1)), some (.dat (eI (1 + r_7.1))), some (.dat (eI (min p_end ((1 + r_7.1) + r_10.1)))), some (.dat (eI s))] : AS)) (fun s_13 => (ct_pure (pt_of (pe_bin (PE1.pl (pe_var rfl)) (pl_mut rfl) (o_inK eI s_13 s_4.2.2))) ⟨_, rfl, rfl, (.keep (.keep (.keep (.keep (.keep (.keep (.keep (.keep (.keep (.keep (.keep (.keep .nil))))))))))))⟩)) (fun s_13 => (cb_set (ce_ix (ce_mut rfl (ce_pure (pe_var rfl) ⟨_, _, ⟨_, .inl rfl, rfl⟩, rfl, (fin_of eI (o_ixK eI s_4.2.2 s_13) (fun v_14 => (.inl ⟨_, rfl, ⟨_, rfl, (.keep (.keep (.keep (.keep (.keep (.keep (.keep (.keep (.keep (.keep (.keep (.keep .nil))))))))))))⟩⟩)))⟩))))) (fun s_15 => (cb_if (ct_pure (pt_and (pt_of (pe_bin (PE1.pl (pe_var rfl)) (PE1.pl pe_c) rfl)) (pt_and (pt_of (pe_bin (PE1.pl (pe_var rfl)) (PE1.pl (pe_var rfl)) (o_neI _ _))) (pt_and (pt_of (pe_bin (PE1.pl (pe_var rfl)) (pl_mut rfl) (o_ninK eI r_6.1 s_4.2.2))) (pt_of (pe_bin (PE1.pl (pe_var rfl)) (PE1.pl (pe_var rfl)) (o_neI _ _)))))) (cond_split (fun _ => (cb_seq (cb_putD eI (ce_pure (pe_var rfl) ⟨IsOb.m rfl, (ce_pure (pe_var rfl) ⟨_, _, r_5.1, _, _, rfl, rfl, (.m rfl rfl), rfl, (cb_app (eT4 eI eI eI eI) (.m rfl rfl) (ce_pure (pe_tup (pa_cons (pe_var rfl) (pa_cons (pe_var rfl) (pa_cons (pe_var rfl) (pa_cons (pe_var rfl) pa_nil)))) (leB rfl)) ⟨_, (r_5.1, r_6.1, (1 + r_7.1), (min p_end ((1 + r_7.1) + r_10.1))), _, _, rfl, (.m rfl rfl), rfl, ⟨_, rfl, (.keep (.keep (.keep (.keep (.keep (.keep (.drop (.drop (.drop (.drop (.drop (.drop .nil))))))))))))⟩⟩))⟩)⟩)))) (fun _ => (cb_nil ⟨_, rfl, (.keep (.keep (.keep (.keep (.keep (.keep (.drop (.drop (.drop (.drop (.drop (.drop .nil))))))))))))⟩)))))) (.keep (.keep (.keep (.keep (.keep (.keep (.keep (.keep (.keep (.keep (.keep (.keep .nil))))))))))))))⟩))))⟩))⟩)⟩)⟩⟩⟩)⟩))⟩⟩⟩)⟩))))))))))))⟩)))))⟩))⟩⟩⟩)⟩))⟩⟩⟩)⟩))))))))))))))⟩)⟩⟩⟩)⟩)))))⟩⟩⟩)⟩))))))))) (fun s_16 => (cb_frz rfl (cb_ret (ce_pure (pe_cb (pla_cons (PL.plr (PE1.pl (pe_var rfl))) pla_nil) rfl) ⟨_, rfl, rfl, ⟨rfl, trivial⟩⟩)))) rfl (.keep (.keep (.keep (.keep (.keep (.keep (.drop (.drop (.drop (.drop (.drop (.drop .nil)))))))))))))⟩)⟩⟩⟩)⟩))))))))⟩))))⟩)⟩))))
theorem R_law_bounds_oddd (p_pool_here : (List Int)) (p_many : Int) (p_end : Int) (p_most : Int) : RFn F__law_bounds [.ob (O.lst (List.map eI p_pool_here)), .dat (eI p_many), .dat (eI p_end), .dat (eI p_most)] (T_law_bounds p_pool_here p_many p_end p_most) (fun (r : ((List (Int × Int × Int)) × (List Int))) => SV.dat ((eV (eT3 eI eI eI)) r.1)) (fun (r : ((List (Int × Int × Int)) × (List Int))) => [(O.lst (List.map eI r.2))]) := by
  unfold T_law_bounds F__law_bounds b__law_bounds
  exact rf_fnA ([some (.par 0 (O.lst (List.map eI p_pool_here))), some (.dat (eI p_many)), some (.dat (eI p_end)), some (.dat (eI p_most)), none, none, none, none, none, none, none] : AS) [0] (np_o (np_d (np_d (np_d np_n)))) rfl rfl
    (cb_seq (cb_set (ce_lstM (ca_pure pa_nil ⟨[], rfl, leB rfl, (.inr ⟨_, rfl, (cb_seq (cb_for (ci_r1 (ca_dat (ce_callN (ca_sl (IsOb.p rfl) (ca_dat (ce_pure (pe_bin (PE1.pl (pe_var rfl)) (PE1.pl pe_c) rfl) ⟨_, rfl, (ca_nil ⟨(IsOb.p rfl), ⟨_, _, _, _, _, _, rfl, (.slp rfl (.dat .nil)), rfl, (show List.Nodup [0] from by decide), R_law_take_od p_pool_here (p_most + 1), fun r_1 => ⟨_, rfl, (ca_nil ⟨_, _, rfl, rfl, fun xs_2 => (cl_foldI (σ := ((List Int) × (List (Int × Int × Int)))) eI (fun (s : ((List Int) × (List (Int × Int × Int)))) => ([some (.par 0 (O.lst (List.map eI s.1))), some (.dat (eI p_many)), some (.dat (eI p_end)), some (.dat (eI p_most)), some (.ob (O.lst (List.map (eT3 eI eI eI) s.2))), none, none, none, none, none, none] : AS)) (fun x_3 s_4 => (cg_nm (cb_seq (cb_par (ca_dat (ce_callN (ca_sl (IsOb.p rfl) (ca_dat (ce_pure (pe_var rfl) ⟨_, rfl, (ca_nil ⟨(IsOb.p rfl), ⟨_, _, _, _, _, _, rfl, (.slp rfl (.dat .nil)), rfl, (show List.Nodup [0] from by decide), R_law_take_od s_4.1 p_many, fun r_5 => ⟨_, rfl, (ca_dat (ce_callN (ca_sl (IsOb.p rfl) (ca_dat (ce_pure (pe_var rfl) ⟨_, rfl, (ca_nil ⟨(IsOb.p rfl), ⟨_, _, _, _, _, _, rfl, (.slp rfl (.dat .nil)), rfl, (show List.Nodup [0] from by decide), R_law_take_od r_5.2 p_many, fun r_6 => ⟨_, rfl, (ca_nil ⟨[(eI r_5.1), (eI r_6.1)], rfl, rfl, (cb_at ([some (.par 0 (O.lst (List.map eI r_6.2))), some (.dat (eI p_many)), some (.dat (eI p_end)), some (.dat (eI p_most)), some (.ob (O.lst (List.map (eT3 eI eI eI) s_4.2))), some (.dat (eI x_3)), some (.dat (eI r_5.1)), some (.dat (eI r_6.1)), none, none, none] : AS) rfl (cb_seq (cb_set (ce_callN (ca_sl (IsOb.p rfl) (ca_dat (ce_pure pe_c ⟨_, rfl, (ca_nil ⟨(IsOb.p rfl), ⟨_, _, _, _, _, _, rfl, (.slp rfl (.dat .nil)), rfl, (show List.Nodup [0] from by decide), R_law_take_od r_6.2 4, fun r_7 => (.inl ⟨_, rfl, (cb_seq (cb_set (ce_callN (ca_sl (IsOb.p rfl) (ca_dat (ce_pure (pe_bin (PE1.pl (pe_var rfl)) (PE1.pl pe_c) rfl) ⟨_, rfl, (ca_nil ⟨(IsOb.p rfl), ⟨_, _, _, _, _, _, rfl, (.slp rfl (.dat .nil)), rfl, (show List.Nodup [0] from by decide), R_law_take_od r_7.2 (p_end + 1), fun r_8 => (.inl ⟨_, rfl, (cb_seq (cb_set (ce_ix (ce_pure (pe_lst (pa_cons (pe_var rfl) (pa_cons (pe_bin (PE1.pl pe_c) (PE1.pl (pe_var rfl)) rfl) (pa_cons (pe_var rfl) (pa_cons (pe_bin (PE1.pl pe_c) (PE1.pl (pe_var rfl)) rfl) pa_nil)))) (leB rfl)) (ce_callN (ca_sl (IsOb.p rfl) (ca_dat (ce_pure pe_c ⟨_, rfl, (ca_nil ⟨(IsOb.p rfl), ⟨_, _, _, _, _, _, rfl, (.slp rfl (.dat .nil)), rfl, (show List.Nodup [0] from by decide), R_law_take_od r_8.2 4, fun r_9 => ⟨_, _, rfl, rfl, (fin_of eI (o_ixL eI [r_7.1, (0 - r_7.1), r_8.1, (0 - r_8.1)] r_9.1) (fun v_10 => (.inl ⟨_, rfl, (cb_if (ct_pure (pt_of (pe_bin (PE1.pl (pe_var rfl)) (PE1.pl (pe_var rfl)) (o_neI _ _))) (cond_split (fun _ => (cb_app (eT3 eI eI eI) (.m rfl rfl) (ce_pure (pe_tup (pa_cons (pe_var rfl) (pa_cons (pe_var rfl) (pa_cons (pe_var rfl) pa_nil))) (leB rfl)) ⟨_, (r_5.1, r_6.1, v_10), _, _, rfl, (.m rfl rfl), rfl, ⟨_, rfl, (.keep (.keep (.keep (.keep (.keep (.drop (.drop (.drop (.drop (.drop (.drop .nil)))))))))))⟩⟩))) (fun _ => (cb_nil ⟨_, rfl, (.keep (.keep (.keep (.keep (.keep (.drop (.drop (.drop (.drop (.drop (.drop .nil)))))))))))⟩)))))⟩)))⟩⟩⟩)⟩))))))))⟩)⟩⟩)⟩))))))⟩)⟩⟩)⟩)))))))⟩)⟩⟩⟩)⟩)))))⟩⟩⟩)⟩))))))))) (fun s_11 => (cb_frz rfl (cb_ret (ce_pure (pe_cb (pla_cons (PL.plr (PE1.pl (pe_var rfl))) pla_nil) rfl) ⟨_, rfl, rfl, ⟨rfl, trivial⟩⟩)))) rfl (.keep (.keep (.keep (.keep (.keep (.drop (.drop (.drop (.drop (.drop (.drop .nil))))))))))))⟩)⟩⟩⟩)⟩))))))))⟩)⟩))))
theorem R_law_near_bounds_odd (p_pool_here : (List Int)) (p_book_here : (Int × Int × (List (Int × Int × Int × Int)) × Unit)) (p_most : Int) : RFn F__law_near_bounds [.ob (O.lst (List.map eI p_pool_here)), .dat ((eT4 eI eI (eV (eT4 eI eI eI eI)) eT0) p_book_here), .dat (eI p_most)] (T_law_near_bounds p_pool_here p_book_here p_most) (fun (r : ((List (Int × Int × Int)) × (List Int))) => SV.dat ((eV (eT3 eI eI eI)) r.1)) (fun (r : ((List (Int × Int × Int)) × (List Int))) => [(O.lst (List.map eI r.2))]) := by
  unfold T_law_near_bounds F__law_near_bounds b__law_near_bounds
  exact rf_fnA ([some (.par 0 (O.lst (List.map eI p_pool_here))), some (.dat ((eT4 eI eI (eV (eT4 eI eI eI eI)) eT0) p_book_here)), some (.dat (eI p_most)), none, none, none, none, none, none, none, none, none, none, none, none, none, none, none, none] : AS) [0] (np_o (np_d (np_d np_n))) rfl rfl
    (cb_seq (cb_asg (ce_pure (pe_var rfl) ⟨_, rfl, (cg_tp rfl (cgs_cons (cg_nm (cgs_cons (cg_nm (cgs_cons (cg_nm (cgs_cons (cg_nm (cgs_nil (cb_at ([some (.par 0 (O.lst (List.map eI p_pool_here))), some (.dat ((eT4 eI eI (eV (eT4 eI eI eI eI)) eT0) p_book_here)), some (.dat (eI p_most)), some (.dat (eI p_book_here.1)), some (.dat (eI p_book_here.2.1)), some (.dat ((eV (eT4 eI eI eI eI)) p_book_here.2.2.1)), some (.dat (eT0 p_book_here.2.2.2)), none, none, none, none, none, none, none, none, none, none, none, none] : AS) rfl (cb_seq (cb_set (ce_lcN eI (tgin_nm (by decide)) (ci_r1 (ca_pure (pa_cons (pe_var rfl) pa_nil) ⟨_, _, rfl, rfl, fun xs_1 => ⟨Int, (List Int), eI, (fun (s : (List Int)) => ([some (.par 0 (O.lst (List.map eI s))), some (.dat ((eT4 eI eI (eV (eT4 eI eI eI eI)) eT0) p_book_here)), some (.dat (eI p_most)), some (.dat (eI p_book_here.1)), some (.dat (eI p_book_here.2.1)), some (.dat ((eV (eT4 eI eI eI eI)) p_book_here.2.2.1)), some (.dat (eT0 p_book_here.2.2.2)), none, none, none, none, none, none, none, none, none, none, none, none] : AS)), _, _, _, _, rfl, (.keep (.keep (.keep (.keep (.keep (.keep (.keep (.drop (.drop (.drop (.drop (.drop (.drop (.drop (.drop (.drop (.drop (.drop (.drop .nil))))))))))))))))))), (hvs_cons (fun _ => rfl) hvs_nil), rfl, fun x_2 s_3 => (cg_nm (ct_pure pt_yes ⟨fun _ => (ce_callN (ca_sl (IsOb.p rfl) (ca_dat (ce_pure (pe_bin (PE1.pl (pe_var rfl)) (PE1.pl pe_c) rfl) ⟨_, rfl, (ca_nil ⟨(IsOb.p rfl), ⟨_, _, _, _, _, _, rfl, (.slp rfl (.dat .nil)), rfl, (show List.Nodup [0] from by decide), R_law_take_od s_3 (p_book_here.1 + 1), fun r_4 => ⟨_, _, rfl, rfl, (.keep (.keep (.keep (.keep (.keep (.keep (.keep (.drop (.drop (.drop (.drop (.drop (.drop (.drop (.drop (.drop (.drop (.drop (.drop .nil)))))))))))))))))))⟩⟩⟩)⟩)))), fun h => nomatch h⟩)), fun ys_33 s_34 => (.inr ⟨_, rfl, (cb_seq (cb_put eI (ce_pure pe_c ⟨IsOb.m rfl, (ce_pure pe_c ⟨_, _, 0, _, _, rfl, rfl, (.m rfl rfl), rfl, fun hours_6 => (cb_seq (cb_set (ce_lc eI (tgin_tp (tgsin_cons (tgin_nm (by decide)) (tgsin_cons (tgin_nm (by decide)) (tgsin_cons (tgin_nm (by decide)) (tgsin_cons (tgin_nm (by decide)) tgsin_nil))))) (ci_seq (ce_pure (pe_var rfl) ⟨_, .inr (.inl rfl), ⟨(Int × Int × Int × Int), (List Int), (eT4 eI eI eI eI), (fun (s : (List Int)) => ([some (.par 0 (O.lst (List.map eI s))), some (.dat ((eT4 eI eI (eV (eT4 eI eI eI eI)) eT0) p_book_here)), some (.dat (eI p_most)), some (.dat (eI p_book_here.1)), some (.dat (eI p_book_here.2.1)), some (.dat ((eV (eT4 eI eI eI eI)) p_book_here.2.2.1)), some (.dat (eT0 p_book_here.2.2.2)), some (.ob (O.lst (List.map eI hours_6))), none, none, none, none, none, none, none, none, none, none, none] : AS)), _, _, _, _, rfl, (.keep (.keep (.keep (.keep (.keep (.keep (.keep (.keep (.drop (.drop (.drop (.drop (.drop (.drop (.drop (.drop (.drop (.drop (.drop .nil))))))))))))))))))), (hvs_cons (fun _ => rfl) (hvs_cons (fun _ => rfl) (hvs_cons (fun _ => rfl) (hvs_cons (fun _ => rfl) hvs_nil)))), rfl, fun x_7 s_8 => (cg_tp rfl (cgs_cons (cg_nm (cgs_cons (cg_nm (cgs_cons (cg_nm (cgs_cons (cg_nm (cgs_nil (ct_pure pt_yes ⟨fun _ => (ce_bin (ce_pure (pe_var rfl) (ce_callN (ca_sl (IsOb.p rfl) (ca_dat (ce_pure (pe_bin (PE1.pl (pe_bin (PE1.pl (pe_var rfl)) (PE1.pl (pe_var rfl)) rfl)) (PE1.pl pe_c) rfl) ⟨_, rfl, (ca_nil ⟨(IsOb.p rfl), ⟨_, _, _, _, _, _, rfl, (.slp rfl (.dat .nil)), rfl, (show List.Nodup [0] from by decide), R_law_take_od s_8 ((x_7.2.2.2 - x_7.2.2.1) + 1), fun r_9 => ⟨_, _, rfl, rfl, (fin_ok rfl ⟨_, _, rfl, rfl, (.keep (.keep (.keep (.keep (.keep (.keep (.keep (.keep (.drop (.drop (.drop (.drop (.drop (.drop (.drop (.drop (.drop (.drop (.drop .nil)))))))))))))))))))⟩)⟩⟩⟩)⟩)))))), fun h => nomatch h⟩))))))))))), fun ys_31 s_32 => (.inl ⟨_, rfl, (cb_seq (cb_for (ci_r1 (ca_pure (pa_cons (pe_cb (pla_cons (PL.plr (PE1.pl (pe_var rfl))) pla_nil) (o_lenV (eT4 eI eI eI eI) p_book_here.2.2.1)) pa_nil) ⟨_, _, rfl, rfl, fun xs_11 => (cl_foldI (σ := (List Int)) eI (fun (s : (List Int)) => ([some (.par 0 (O.lst (List.map eI s_32))), some (.dat ((eT4 eI eI (eV (eT4 eI eI eI eI)) eT0) p_book_here)), some (.dat (eI p_most)), some (.dat (eI p_book_here.1)), some (.dat (eI p_book_here.2.1)), some (.dat ((eV (eT4 eI eI eI eI)) p_book_here.2.2.1)), some (.dat (eT0 p_book_here.2.2.2)), some (.ob (O.lst (List.map eI s))), some (.dat ((eL eI) ys_31)), none, none, none, none, none, none, none, none, none, none] : AS)) (fun x_12 s_13 => (cg_nm (cb_for (ci_zip (ca_pure (pa_cons (pe_var rfl) (pa_cons (pe_var rfl) pa_nil)) ⟨_, _, .inr (.inr rfl), (cl_foldI (σ := (List Int)) (eT2 (eT4 eI eI eI eI) eI) (fun (s : (List Int)) => ([some (.par 0 (O.lst (List.map eI s_32))), some (.dat ((eT4 eI eI (eV (eT4 eI eI eI eI)) eT0) p_book_here)), some (.dat (eI p_most)), some (.dat (eI p_book_here.1)), some (.dat (eI p_book_here.2.1)), some (.dat ((eV (eT4 eI eI eI eI)) p_book_here.2.2.1)), some (.dat (eT0 p_book_here.2.2.2)), some (.ob (O.lst (List.map eI s))), some (.dat ((eL eI) ys_31)), some (.dat (eI x_12)), none, none, none, none, none, none, none, none, none] : AS)) (fun x_14 s_15 => (cg_tp rfl (cgs_cons (cg_tp rfl (cgs_cons (cg_nm (cgs_cons (cg_nm (cgs_cons (cg_nm (cgs_cons (cg_nm (cgs_nil (cgs_cons (cg_nm (cgs_nil (cb_put eI (ce_bin (ce_ix (ce_mut rfl (ce_pure (pe_var rfl) ⟨_, _, ⟨_, .inl rfl, rfl⟩, rfl, (fin_of eI (o_ixL eI s_15 x_14.1.1) (fun v_16 => (ce_pure (pe_var rfl) ⟨_, _, rfl, rfl, (fin_ok rfl ⟨IsOb.m rfl, (ce_pure (pe_var rfl) ⟨_, _, (v_16 + x_14.2), _, _, rfl, rfl, (.m rfl rfl), rfl, fun hours_17 => ⟨_, rfl, (.keep (.keep (.keep (.keep (.keep (.keep (.keep (.keep (.keep (.keep (.drop (.drop (.drop (.drop (.drop (.drop (.drop (.drop (.drop .nil)))))))))))))))))))⟩⟩)⟩)⟩)))⟩))))))))))))))))))))) (fun s_18 => ⟨_, rfl, (.keep (.keep (.keep (.keep (.keep (.keep (.keep (.keep (.keep (.drop (.drop (.drop (.drop (.drop (.drop (.drop (.drop (.drop (.drop .nil)))))))))))))))))))⟩) (zip_T (eT4 eI eI eI eI) eI p_book_here.2.2.1 ys_31) (.keep (.keep (.keep (.keep (.keep (.keep (.keep (.keep (.keep (.keep (.drop (.drop (.drop (.drop (.drop (.drop (.drop (.drop (.drop .nil))))))))))))))))))))⟩))))) (fun s_19 => (cb_frz rfl (cb_seq (cb_set (ce_lstM (ca_pure pa_nil ⟨[], rfl, leB rfl, (.inr ⟨_, rfl, (cb_seq (cb_for (ci_r1 (ca_dat (ce_callN (ca_sl (IsOb.p rfl) (ca_dat (ce_pure (pe_bin (PE1.pl (pe_var rfl)) (PE1.pl pe_c) rfl) ⟨_, rfl, (ca_nil ⟨(IsOb.p rfl), ⟨_, _, _, _, _, _, rfl, (.slp rfl (.dat .nil)), rfl, (show List.Nodup [0] from by decide), R_law_take_od s_32 (p_most + 1), fun r_20 => ⟨_, rfl, (ca_nil ⟨_, _, rfl, rfl, fun xs_21 => (cl_foldI (σ := ((List Int) × (List (Int × Int × Int)))) eI (fun (s : ((List Int) × (List (Int × Int × Int)))) => ([some (.par 0 (O.lst (List.map eI s.1))), some (.dat ((eT4 eI eI (eV (eT4 eI eI eI eI)) eT0) p_book_here)), some (.dat (eI p_most)), some (.dat (eI p_book_here.1)), some (.dat (eI p_book_here.2.1)), some (.dat ((eV (eT4 eI eI eI eI)) p_book_here.2.2.1)), some (.dat (eT0 p_book_here.2.2.2)), some (.dat ((eL eI) s_19)), some (.dat ((eL eI) ys_31)), none, none, none, none, none, none, some (.ob (O.lst (List.map (eT3 eI eI eI) s.2))), none, none, none] : AS)) (fun x_22 s_23 => (cg_nm (cb_seq (cb_par (ca_dat (ce_callN (ca_sl (IsOb.p rfl) (ca_dat (ce_pure (pe_var rfl) ⟨_, rfl, (ca_nil ⟨(IsOb.p rfl), ⟨_, _, _, _, _, _, rfl, (.slp rfl (.dat .nil)), rfl, (show List.Nodup [0] from by decide), R_law_take_od s_23.1 p_book_here.2.1, fun r_24 => ⟨_, rfl, (ca_dat (ce_callN (ca_sl (IsOb.p rfl) (ca_dat (ce_pure (pe_var rfl) ⟨_, rfl, (ca_nil ⟨(IsOb.p rfl), ⟨_, _, _, _, _, _, rfl, (.slp rfl (.dat .nil)), rfl, (show List.Nodup [0] from by decide), R_law_take_od r_24.2 p_book_here.2.1, fun r_25 => ⟨_, rfl, (ca_nil ⟨[(eI r_24.1), (eI r_25.1)], rfl, rfl, (cb_at ([some (.par 0 (O.lst (List.map eI r_25.2))), some (.dat ((eT4 eI eI (eV (eT4 eI eI eI eI)) eT0) p_book_here)), some (.dat (eI p_most)), some (.dat (eI p_book_here.1)), some (.dat (eI p_book_here.2.1)), some (.dat ((eV (eT4 eI eI eI eI)) p_book_here.2.2.1)), some (.dat (eT0 p_book_here.2.2.2)), some (.dat ((eL eI) s_19)), some (.dat ((eL eI) ys_31)), some (.dat (eI x_22)), some (.dat (eI r_24.1)), none, none, none, none, some (.ob (O.lst (List.map (eT3 eI eI eI) s_23.2))), some (.dat (eI r_25.1)), none, none] : AS) rfl (cb_seq (cb_set (ce_bin (ce_bin (ce_ix (ce_pure (pe_var rfl) (ce_pure (pe_var rfl) ⟨_, _, rfl, rfl, (fin_of eI (o_ixL eI s_19 r_25.1) (fun v_26 => (ce_ix (ce_pure (pe_var rfl) (ce_pure (pe_var rfl) ⟨_, _, rfl, rfl, (fin_of eI (o_ixL eI s_19 r_24.1) (fun v_27 => ⟨_, _, rfl, rfl, (fin_ok rfl (ce_ix (ce_pure (pe_lst (pa_cons pe_c (pa_cons pe_c (pa_cons pe_c (pa_cons pe_c (pa_cons pe_c (pa_cons (pe_bin (PE1.pl pe_c) (PE1.pl pe_c) rfl) pa_nil)))))) (leB rfl)) (ce_callN (ca_sl (IsOb.p rfl) (ca_dat (ce_pure pe_c ⟨_, rfl, (ca_nil ⟨(IsOb.p rfl), ⟨_, _, _, _, _, _, rfl, (.slp rfl (.dat .nil)), rfl, (show List.Nodup [0] from by decide), R_law_take_od r_25.2 6, fun r_28 => ⟨_, _, rfl, rfl, (fin_of eI (o_ixL eI [0, 0, 1, 2, 3, (0 - 1)] r_28.1) (fun v_29 => ⟨_, _, rfl, rfl, (fin_ok rfl (.inl ⟨_, rfl, (cb_if (ct_pure (pt_and (pt_of (pe_bin (PE1.pl (pe_var rfl)) (PE1.pl (pe_var rfl)) (o_neI _ _))) (pt_of (pe_bin (PE1.pl (pe_cb (pla_cons (PL.plr (PE1.pl (pe_var rfl))) pla_nil) (o_abs _))) (PE1.pl pe_c) rfl))) (cond_split (fun _ => (cb_app (eT3 eI eI eI) (.m rfl rfl) (ce_pure (pe_tup (pa_cons (pe_var rfl) (pa_cons (pe_var rfl) (pa_cons (pe_var rfl) pa_nil))) (leB rfl)) ⟨_, (r_24.1, r_25.1, ((v_26 - v_27) + v_29)), _, _, rfl, (.m rfl rfl), rfl, ⟨_, rfl, (.keep (.keep (.keep (.keep (.keep (.keep (.keep (.keep (.keep (.drop (.drop (.drop (.drop (.drop (.drop (.keep (.drop (.drop (.drop .nil)))))))))))))))))))⟩⟩))) (fun _ => (cb_nil ⟨_, rfl, (.keep (.keep (.keep (.keep (.keep (.keep (.keep (.keep (.keep (.drop (.drop (.drop (.drop (.drop (.drop (.keep (.drop (.drop (.drop .nil)))))))))))))))))))⟩)))))⟩))⟩))⟩⟩⟩)⟩)))))))⟩))⟩)))))⟩))))))))⟩)⟩⟩⟩)⟩)))))⟩⟩⟩)⟩))))))))) (fun s_30 => (cb_frz rfl (cb_ret (ce_pure (pe_cb (pla_cons (PL.plr (PE1.pl (pe_var rfl))) pla_nil) rfl) ⟨_, rfl, rfl, ⟨rfl, trivial⟩⟩)))) rfl (.keep (.keep (.keep (.keep (.keep (.keep (.keep (.keep (.keep (.drop (.drop (.drop (.drop (.drop (.drop (.keep (.drop (.drop (.drop .nil))))))))))))))))))))⟩)⟩⟩⟩)⟩))))))))⟩)⟩)))))) rfl (.keep (.keep (.keep (.keep (.keep (.keep (.keep (.keep (.keep (.drop (.drop (.drop (.drop (.drop (.drop (.drop (.drop (.drop (.drop .nil))))))))))))))))))))⟩))))⟩)⟩⟩)))))⟩)⟩)))⟩)⟩⟩))))))))))))))))⟩)))
theorem R_is_span_ddd (p_thing : D) (p_end : D) (p_many : D) : RFn F_is_span [.dat (eD p_thing), .dat (eD p_end), .dat (eD p_many)] (T_is_span p_thing p_end p_many) (fun (r : Bool) => SV.dat (eB r)) (fun (r : Bool) => []) := by
  unfold T_is_span F_is_span b_is_span
  exact rf_fnA ([some (.dat (eD p_thing)), some (.dat (eD p_end)), some (.dat (eD p_many)), none, none, none, none] : AS) [] (np_d (np_d (np_d np_n))) rfl rfl
    (cb_seq (cb_if (ct_join (σ := Bool) (fun s => s) (fun s => ([some (.dat (eD p_thing)), some (.dat (eD p_end)), some (.dat (eD p_many)), none, none, none, none] : AS)) (ct_or (ct_pure (pt_not (pt_tru (PE1.pl (pe_isi (PL.plr (PE1.pl (pe_var rfl))))) rfl)) (or_ct (fun _ => ⟨_, rfl, rfl, (.keep (.keep (.keep (.drop (.drop (.drop (.drop .nil)))))))⟩) (fun _ => (ct_of (ce_bin (ce_cb (ca_dat (ce_pure (pe_var rfl) ⟨_, rfl, (ca_nil ⟨_, (.cons rfl .nil), (fin_of eI (o_lenD _) (fun v_1 => (ce_pure pe_c ⟨_, _, rfl, rfl, (fin_ok (o_neI _ _) ⟨_, rfl, ⟨_, rfl, rfl, (.keep (.keep (.keep (.drop (.drop (.drop (.drop .nil)))))))⟩⟩)⟩)))⟩)⟩))))))))) (fun s_2 => (cond_split (fun _ => (cb_ret (ce_pure pe_c ⟨_, rfl, rfl, trivial⟩))) (fun _ => (cb_nil (cb_seq (cb_asg (ce_pure (pe_var rfl) ⟨_, rfl, (cg_un (eT4 eD eD eD eD) un4_ok (fun u_3 => (cg_tp rfl (cgs_cons (cg_nm (cgs_cons (cg_nm (cgs_cons (cg_nm (cgs_cons (cg_nm (cgs_nil (cb_at ([some (.dat (eD p_thing)), some (.dat (eD p_end)), some (.dat (eD p_many)), some (.dat (eD u_3.1)), some (.dat (eD u_3.2.1)), some (.dat (eD u_3.2.2.1)), some (.dat (eD u_3.2.2.2))] : AS) rfl (cb_seq (cb_if (ct_join (σ := Bool) (fun s => s) (fun s => ([some (.dat (eD p_thing)), some (.dat (eD p_end)), some (.dat (eD p_many)), some (.dat (eD u_3.1)), some (.dat (eD u_3.2.1)), some (.dat (eD u_3.2.2.1)), some (.dat (eD u_3.2.2.2))] : AS)) (ct_or (ct_not (ct_tru (ce_callN (ca_dat (ce_pure (pe_var rfl) ⟨_, rfl, (ca_dat (ce_pure pe_c ⟨_, rfl, (ca_dat (ce_bin (ce_pure (pe_var rfl) (ce_pure pe_c ⟨_, _, rfl, rfl, (fin_of eD (map_id' _) (fun v_5 => ⟨_, rfl, (ca_nil ⟨_, _, _, _, _, _, rfl, (.dat (.dat (.dat .nil))), rfl, (show List.Nodup ([] : List Nat) from by decide), R_is_within_ddd u_3.1 (eI 0) v_5, fun r_4 => ⟨_, _, rfl, rfl, (or_ct (fun _ => ⟨_, rfl, rfl, (.keep (.keep (.keep (.keep (.keep (.keep (.keep .nil)))))))⟩) (fun _ => (ct_or (ct_not (ct_tru (ce_callN (ca_dat (ce_pure (pe_var rfl) ⟨_, rfl, (ca_dat (ce_pure pe_c ⟨_, rfl, (ca_dat (ce_bin (ce_pure (pe_var rfl) (ce_pure pe_c ⟨_, _, rfl, rfl, (fin_of eD (map_id' _) (fun v_7 => ⟨_, rfl, (ca_nil ⟨_, _, _, _, _, _, rfl, (.dat (.dat (.dat .nil))), rfl, (show List.Nodup ([] : List Nat) from by decide), R_is_within_ddd u_3.2.1 (eI 1) v_7, fun r_6 => ⟨_, _, rfl, rfl, (or_ct (fun _ => ⟨_, rfl, rfl, (.keep (.keep (.keep (.keep (.keep (.keep (.keep .nil)))))))⟩) (fun _ => (ct_of (ce_bin (ce_pure (pe_var rfl) (ce_pure (pe_var rfl) ⟨_, _, rfl, rfl, (fin_of eB (o_eqX _ _) (fun v_8 => ⟨_, rfl, ⟨_, rfl, rfl, (.keep (.keep (.keep (.keep (.keep (.keep (.keep .nil)))))))⟩⟩))⟩))))))⟩⟩)⟩))⟩))))⟩))⟩))))))))⟩⟩)⟩))⟩))))⟩))⟩)))))) (fun s_9 => (cond_split (fun _ => (cb_ret (ce_pure pe_c ⟨_, rfl, rfl, trivial⟩))) (fun _ => (cb_nil (cb_ret (ce_join (σ := Bool) (fun s => (eB s)) (fun s => ([some (.dat (eD p_thing)), some (.dat (eD p_end)), some (.dat (eD p_many)), some (.dat (eD u_3.1)), some (.dat (eD u_3.2.1)), some (.dat (eD u_3.2.2.1)), some (.dat (eD u_3.2.2.2))] : AS)) (ce_and (ce_call0 (pa_cons (pe_var rfl) (pa_cons pe_c (pa_cons (pe_var rfl) pa_nil))) rfl (R_is_within_ddd u_3.2.2.2 (eI 1) p_end) (fun r_10 => ⟨_, rfl, and_ce (fun _ => (ce_call0 (pa_cons (pe_var rfl) (pa_cons pe_c (pa_cons (pe_var rfl) pa_nil))) rfl (R_is_within_ddd u_3.2.2.1 (eI 1) u_3.2.2.2) (fun r_11 => ⟨_, rfl, rfl, (.keep (.keep (.keep (.keep (.keep (.keep (.keep .nil)))))))⟩) trivial)) (fun _ => ⟨_, rfl, rfl, (.keep (.keep (.keep (.keep (.keep (.keep (.keep .nil)))))))⟩)⟩) trivial)) (fun s_12 => ⟨_, rfl, rfl, trivial⟩)))))))))))))))))))))))⟩))))))))))
theorem R_is_bound_dd (p_thing : D) (p_many : D) : RFn F_is_bound [.dat (eD p_thing), .dat (eD p_many)] (T_is_bound p_thing p_many) (fun (r : Bool) => SV.dat (eB r)) (fun (r : Bool) => []) := by
  unfold T_is_bound F_is_bound b_is_bound
  exact rf_fnA ([some (.dat (eD p_thing)), some (.dat (eD p_many)), none, none, none] : AS) [] (np_d (np_d np_n)) rfl rfl
    (cb_seq (cb_if (ct_join (σ := Bool) (fun s => s) (fun s => ([some (.dat (eD p_thing)), some (.dat (eD p_many)), none, none, none] : AS)) (ct_or (ct_pure (pt_not (pt_tru (PE1.pl (pe_isi (PL.plr (PE1.pl (pe_var rfl))))) rfl)) (or_ct (fun _ => ⟨_, rfl, rfl, (.keep (.keep (.drop (.drop (.drop .nil)))))⟩) (fun _ => (ct_of (ce_bin (ce_cb (ca_dat (ce_pure (pe_var rfl) ⟨_, rfl, (ca_nil ⟨_, (.cons rfl .nil), (fin_of eI (o_lenD _) (fun v_1 => (ce_pure pe_c ⟨_, _, rfl, rfl, (fin_ok (o_neI _ _) ⟨_, rfl, ⟨_, rfl, rfl, (.keep (.keep (.drop (.drop (.drop .nil)))))⟩⟩)⟩)))⟩)⟩))))))))) (fun s_2 => (cond_split (fun _ => (cb_ret (ce_pure pe_c ⟨_, rfl, rfl, trivial⟩))) (fun _ => (cb_nil (cb_seq (cb_asg (ce_pure (pe_var rfl) ⟨_, rfl, (cg_un (eT3 eD eD eD) un3_ok (fun u_3 => (cg_tp rfl (cgs_cons (cg_nm (cgs_cons (cg_nm (cgs_cons (cg_nm (cgs_nil (cb_at ([some (.dat (eD p_thing)), some (.dat (eD p_many)), some (.dat (eD u_3.1)), some (.dat (eD u_3.2.1)), some (.dat (eD u_3.2.2))] : AS) rfl (cb_seq (cb_if (ct_join (σ := Bool) (fun s => s) (fun s => ([some (.dat (eD p_thing)), some (.dat (eD p_many)), some (.dat (eD u_3.1)), some (.dat (eD u_3.2.1)), some (.dat (eD u_3.2.2))] : AS)) (ct_or (ct_not (ct_tru (ce_callN (ca_dat (ce_pure (pe_var rfl) ⟨_, rfl, (ca_dat (ce_pure pe_c ⟨_, rfl, (ca_dat (ce_bin (ce_pure (pe_var rfl) (ce_pure pe_c ⟨_, _, rfl, rfl, (fin_of eD (map_id' _) (fun v_5 => ⟨_, rfl, (ca_nil ⟨_, _, _, _, _, _, rfl, (.dat (.dat (.dat .nil))), rfl, (show List.Nodup ([] : List Nat) from by decide), R_is_within_ddd u_3.1 (eI 0) v_5, fun r_4 => ⟨_, _, rfl, rfl, (or_ct (fun _ => ⟨_, rfl, rfl, (.keep (.keep (.keep (.keep (.keep .nil)))))⟩) (fun _ => (ct_or (ct_not (ct_tru (ce_callN (ca_dat (ce_pure (pe_var rfl) ⟨_, rfl, (ca_dat (ce_pure pe_c ⟨_, rfl, (ca_dat (ce_bin (ce_pure (pe_var rfl) (ce_pure pe_c ⟨_, _, rfl, rfl, (fin_of eD (map_id' _) (fun v_7 => ⟨_, rfl, (ca_nil ⟨_, _, _, _, _, _, rfl, (.dat (.dat (.dat .nil))), rfl, (show List.Nodup ([] : List Nat) from by decide), R_is_within_ddd u_3.2.1 (eI 0) v_7, fun r_6 => ⟨_, _, rfl, rfl, (or_ct (fun _ => ⟨_, rfl, rfl, (.keep (.keep (.keep (.keep (.keep .nil)))))⟩) (fun _ => (ct_of (ce_bin (ce_pure (pe_var rfl) (ce_pure (pe_var rfl) ⟨_, _, rfl, rfl, (fin_of eB (o_eqX _ _) (fun v_8 => ⟨_, rfl, ⟨_, rfl, rfl, (.keep (.keep (.keep (.keep (.keep .nil)))))⟩⟩))⟩))))))⟩⟩)⟩))⟩))))⟩))⟩))))))))⟩⟩)⟩))⟩))))⟩))⟩)))))) (fun s_9 => (cond_split (fun _ => (cb_ret (ce_pure pe_c ⟨_, rfl, rfl, trivial⟩))) (fun _ => (cb_nil (cb_ret (ce_call0 (pa_cons (pe_var rfl) (pa_cons (pe_bin (PE1.pl pe_c) (PE1.pl pe_c) rfl) (pa_cons pe_c pa_nil))) rfl (R_is_within_ddd u_3.2.2 (eI (0 - 60)) (eI 60)) (fun r_10 => ⟨_, rfl, rfl, trivial⟩) trivial))))))))))))))))))))⟩))))))))))
theorem R_law_book_odddd (p_pool_here : (List Int)) (p_most_marks : Int) (p_most_spans : Int) (p_most_bounds : Int) (p_most_end : Int) : RFn F__law_book [.ob (O.lst (List.map eI p_pool_here)), .dat (eI p_most_marks), .dat (eI p_most_spans), .dat (eI p_most_bounds), .dat (eI p_most_end)] (T_law_book p_pool_here p_most_marks p_most_spans p_most_bounds p_most_end) (fun (r : ((Int × Int × (List (Int × Int × Int × Int)) × (List (Int × Int × Int))) × (List Int))) => SV.dat ((eT4 eI eI (eV (eT4 eI eI eI eI)) (eV (eT3 eI eI eI))) r.1)) (fun (r : ((Int × Int × (List (Int × Int × Int × Int)) × (List (Int × Int × Int))) × (List Int))) => [(O.lst (List.map eI r.2))]) := by
  unfold T_law_book F__law_book b__law_book
  exact rf_fnA ([some (.par 0 (O.lst (List.map eI p_pool_here))), some (.dat (eI p_most_marks)), some (.dat (eI p_most_spans)), some (.dat (eI p_most_bounds)), some (.dat (eI p_most_end)), none, none, none, none, none] : AS) [0] (np_o (np_d (np_d (np_d (np_d np_n))))) rfl rfl
    (cb_seq (cb_set (ce_callN (ca_sl (IsOb.p rfl) (ca_dat (ce_pure pe_c ⟨_, rfl, (ca_nil ⟨(IsOb.p rfl), ⟨_, _, _, _, _, _, rfl, (.slp rfl (.dat .nil)), rfl, (show List.Nodup [0] from by decide), R_law_take_od p_pool_here 3, fun r_1 => (.inl ⟨_, rfl, (cb_seq (cb_set (ce_bin (ce_pure pe_c (ce_callN (ca_sl (IsOb.p rfl) (ca_dat (ce_pure (pe_var rfl) ⟨_, rfl, (ca_nil ⟨(IsOb.p rfl), ⟨_, _, _, _, _, _, rfl, (.slp rfl (.dat .nil)), rfl, (show List.Nodup [0] from by decide), R_law_take_od r_1.2 p_most_end, fun r_2 => ⟨_, _, rfl, rfl, (fin_ok rfl (.inl ⟨_, rfl, (cb_seq (cb_set (ce_bin (ce_pure pe_c (ce_callN (ca_sl (IsOb.p rfl) (ca_dat (ce_pure (pe_var rfl) ⟨_, rfl, (ca_nil ⟨(IsOb.p rfl), ⟨_, _, _, _, _, _, rfl, (.slp rfl (.dat .nil)), rfl, (show List.Nodup [0] from by decide), R_law_take_od r_2.2 p_most_marks, fun r_3 => ⟨_, _, rfl, rfl, (fin_ok rfl (.inl ⟨_, rfl, (cb_seq (cb_set (ce_callN (ca_sl (IsOb.p rfl) (ca_dat (ce_pure (pe_var rfl) ⟨_, rfl, (ca_dat (ce_pure (pe_var rfl) ⟨_, rfl, (ca_dat (ce_pure (pe_var rfl) ⟨_, rfl, (ca_nil ⟨(IsOb.p rfl), ⟨_, _, _, _, _, _, rfl, (.slp rfl (.dat (.dat (.dat .nil)))), rfl, (show List.Nodup [0] from by decide), R_law_spans_oddd r_3.2 (1 + r_3.1) (1 + r_2.1) p_most_spans, fun r_4 => (.inl ⟨_, rfl, (cb_seq (cb_setP (eT4 eI eI (eV (eT4 eI eI eI eI)) eT0) (pe_tup (pa_cons (pe_var rfl) (pa_cons (pe_var rfl) (pa_cons (pe_var rfl) (pa_cons (pe_tup pa_nil (leB rfl)) pa_nil)))) (leB rfl)) (fun book_here_5 => (cb_seq (cb_if (ct_pure (pt_of (pe_bin (PE1.pl (pe_var rfl)) (PE1.pl pe_c) (o_eqI _ _))) (cond_split (fun _ => (cb_ret (ce_tup (ca_dat (ce_pure (pe_var rfl) ⟨_, rfl, (ca_dat (ce_pure (pe_var rfl) ⟨_, rfl, (ca_dat (ce_pure (pe_var rfl) ⟨_, rfl, (ca_dat (ce_callN (ca_sl (IsOb.p rfl) (ca_dat (ce_pure (pe_var rfl) ⟨_, rfl, (ca_dat (ce_pure (pe_var rfl) ⟨_, rfl, (ca_dat (ce_pure (pe_var rfl) ⟨_, rfl, (ca_nil ⟨(IsOb.p rfl), ⟨_, _, _, _, _, _, rfl, (.slp rfl (.dat (.dat (.dat .nil)))), rfl, (show List.Nodup [0] from by decide), R_law_bounds_oddd r_4.2 (1 + r_3.1) (1 + r_2.1) p_most_bounds, fun r_6 => ⟨_, rfl, (ca_nil ⟨[(eI (1 + r_2.1)), (eI (1 + r_3.1)), ((eV (eT4 eI eI eI eI)) r_4.1), ((eV (eT3 eI eI eI)) r_6.1)], rfl, leB rfl, ⟨_, rfl, rfl, ⟨rfl, trivial⟩⟩⟩)⟩⟩⟩)⟩))⟩))⟩)))))⟩))⟩))⟩))))) (fun _ => (cb_nil (cb_ret (ce_tup (ca_dat (ce_pure (pe_var rfl) ⟨_, rfl, (ca_dat (ce_pure (pe_var rfl) ⟨_, rfl, (ca_dat (ce_pure (pe_var rfl) ⟨_, rfl, (ca_dat (ce_callN (ca_sl (IsOb.p rfl) (ca_dat (ce_pure (pe_var rfl) ⟨_, rfl, (ca_dat (ce_pure (pe_var rfl) ⟨_, rfl, (ca_nil ⟨(IsOb.p rfl), ⟨_, _, _, _, _, _, rfl, (.slp rfl (.dat (.dat .nil))), rfl, (show List.Nodup [0] from by decide), R_law_near_bounds_odd r_4.2 book_here_5 p_most_bounds, fun r_7 => ⟨_, rfl, (ca_nil ⟨[(eI (1 + r_2.1)), (eI (1 + r_3.1)), ((eV (eT4 eI eI eI eI)) r_4.1), ((eV (eT3 eI eI eI)) r_7.1)], rfl, leB rfl, ⟨_, rfl, rfl, ⟨rfl, trivial⟩⟩⟩)⟩⟩⟩)⟩))⟩)))))⟩))⟩))⟩)))))))))))))⟩)⟩⟩)⟩))⟩))⟩))))))⟩))⟩⟩⟩)⟩))))))))⟩))⟩⟩⟩)⟩))))))))⟩)⟩⟩)⟩))))))
theorem R_are_spans_ddd (p_thing : D) (p_end : D) (p_many : D) : RFn F_are_spans [.dat (eD p_thing), .dat (eD p_end), .dat (eD p_many)] (T_are_spans p_thing p_end p_many) (fun (r : Bool) => SV.dat (eB r)) (fun (r : Bool) => []) := by
  unfold T_are_spans F_are_spans b_are_spans
  exact rf_fnA ([some (.dat (eD p_thing)), some (.dat (eD p_end)), some (.dat (eD p_many)), none, none, none] : AS) [] (np_d (np_d (np_d np_n))) rfl rfl
    (cb_seq (cb_if (ct_join (σ := Bool) (fun s => s) (fun s => ([some (.dat (eD p_thing)), some (.dat (eD p_end)), some (.dat (eD p_many)), none, none, none] : AS)) (ct_or (ct_pure (pt_not (pt_tru (PE1.pl (pe_isi (PL.plr (PE1.pl (pe_var rfl))))) rfl)) (or_ct (fun _ => ⟨_, rfl, rfl, (.keep (.keep (.keep (.drop (.drop (.drop .nil))))))⟩) (fun _ => (ct_of (ce_bin (ce_cb (ca_dat (ce_pure (pe_var rfl) ⟨_, rfl, (ca_nil ⟨_, (.cons rfl .nil), (fin_of eI (o_lenD _) (fun v_1 => (ce_pure pe_c ⟨_, _, rfl, rfl, (fin_ok rfl ⟨_, rfl, ⟨_, rfl, rfl, (.keep (.keep (.keep (.drop (.drop (.drop .nil))))))⟩⟩)⟩)))⟩)⟩))))))))) (fun s_2 => (cond_split (fun _ => (cb_ret (ce_pure pe_c ⟨_, rfl, rfl, trivial⟩))) (fun _ => (cb_nil (cb_seq (cb_if (ct_not (ct_tru (ce_cb (ca_dat (ce_lc eB (tgin_nm (by decide)) (ci_seqD (ce_pure (pe_var rfl) ⟨_, _, rfl, rfl, fun xs_3 => ⟨D, Unit, eD, (fun (s : Unit) => ([some (.dat (eD p_thing)), some (.dat (eD p_end)), some (.dat (eD p_many)), none, none, none] : AS)), _, _, _, _, rfl, (.keep (.keep (.keep (.drop (.drop (.drop .nil)))))), (hvs_cons (fun _ => rfl) hvs_nil), rfl, fun x_4 s_5 => (cg_nm (ct_pure pt_yes ⟨fun _ => (ce_call0 (pa_cons (pe_var rfl) (pa_cons (pe_var rfl) (pa_cons (pe_var rfl) pa_nil))) rfl (R_is_span_ddd x_4 p_end p_many) (fun r_6 => ⟨_, _, rfl, rfl, (.keep (.keep (.keep (.drop (.drop (.drop .nil))))))⟩) trivial), fun h => nomatch h⟩)), fun ys_18 s_19 => ⟨_, rfl, (ca_nil ⟨_, (.cons rfl .nil), (fin_ok (o_all ys_18) ⟨_, _, rfl, rfl, (cond_split (fun _ => (cb_ret (ce_pure pe_c ⟨_, rfl, rfl, trivial⟩))) (fun _ => (cb_nil (cb_seq (cb_set (ce_call0 (pa_cons (pe_var rfl) pa_nil) rfl (R_spans_by_goal_D_d p_thing) (fun r_8 => (.inl ⟨_, rfl, (cb_ret (ce_join (σ := Bool) (fun s => (eB s)) (fun s => ([some (.dat (eD p_thing)), some (.dat (eD p_end)), some (.dat (eD p_many)), some (.dat ((eK eI) r_8)), none, none] : AS)) (ce_and (ce_bin (ce_pure (pe_cb (pla_cons (PL.plr (PE1.pl (pe_var rfl))) pla_nil) (o_lenK eI r_8)) (ce_cb (ca_dat (ce_pure (pe_var rfl) ⟨_, rfl, (ca_nil ⟨_, (.cons rfl .nil), (fin_of eI (o_lenD _) (fun v_9 => ⟨_, _, rfl, rfl, (fin_ok (o_eqI _ _) ⟨_, rfl, and_ce (fun _ => (ce_cb (ca_dat (ce_lcK (ce_lc eB (tgin_nm (by decide)) (ci_keys rfl ⟨Int, Unit, eI, (fun (s : Unit) => ([some (.dat (eD p_thing)), some (.dat (eD p_end)), some (.dat (eD p_many)), some (.dat ((eK eI) r_8)), none, none] : AS)), _, _, _, _, (keys_T eI r_8), (.keep (.keep (.keep (.keep (.drop (.drop .nil)))))), (hvs_cons (fun _ => rfl) hvs_nil), rfl, fun x_10 s_11 => (cg_nm (ct_pure pt_yes ⟨fun _ => (ce_bin (ce_cb (ca_dat (ce_call0 (pa_cons (pe_var rfl) (pa_cons (pe_var rfl) (pa_cons (pe_var rfl) pa_nil))) rfl (R_way_from_D_ddd p_thing r_8 (eI x_10)) (fun r_12 => ⟨_, rfl, (ca_nil ⟨_, (.cons rfl .nil), (fin_ok (o_lenL eI r_12) (ce_cb (ca_dat (ce_pure (pe_var rfl) ⟨_, rfl, (ca_nil ⟨_, (.cons rfl .nil), (fin_of eI (o_lenD _) (fun v_13 => ⟨_, _, rfl, rfl, (fin_ok rfl ⟨_, _, rfl, rfl, (.keep (.keep (.keep (.keep (.drop (.drop .nil))))))⟩)⟩))⟩)⟩))))⟩)⟩) trivial)))), fun h => nomatch h⟩)), fun ys_15 s_16 => ⟨_, rfl, (ca_nil ⟨_, (.cons rfl .nil), (fin_ok (o_all ys_15) ⟨_, rfl, rfl, (.keep (.keep (.keep (.keep (.drop (.drop .nil))))))⟩)⟩)⟩⟩)))))) (fun _ => ⟨_, rfl, rfl, (.keep (.keep (.keep (.keep (.drop (.drop .nil))))))⟩)⟩)⟩))⟩)⟩)))))) (fun s_17 => ⟨_, rfl, rfl, trivial⟩)))⟩)) trivial))))))⟩)⟩)⟩⟩⟩))))))))))))))))
theorem R_is_book_d (p_thing : D) : RFn F_is_book [.dat (eD p_thing)] (T_is_book p_thing) (fun (r : Bool) => SV.dat (eB r)) (fun (r : Bool) => []) := by
  unfold T_is_book F_is_book b_is_book
  exact rf_fnA ([some (.dat (eD p_thing)), none, none, none, none, none] : AS) [] (np_d np_n) rfl rfl
    (cb_seq (cb_if (ct_join (σ := Bool) (fun s => s) (fun s => ([some (.dat (eD p_thing)), none, none, none, none, none] : AS)) (ct_or (ct_pure (pt_not (pt_tru (PE1.pl (pe_isi (PL.plr (PE1.pl (pe_var rfl))))) rfl)) (or_ct (fun _ => ⟨_, rfl, rfl, (.keep (.drop (.drop (.drop (.drop (.drop .nil))))))⟩) (fun _ => (ct_of (ce_bin (ce_cb (ca_dat (ce_pure (pe_var rfl) ⟨_, rfl, (ca_nil ⟨_, (.cons rfl .nil), (fin_of eI (o_lenD _) (fun v_1 => (ce_pure pe_c ⟨_, _, rfl, rfl, (fin_ok (o_neI _ _) ⟨_, rfl, ⟨_, rfl, rfl, (.keep (.drop (.drop (.drop (.drop (.drop .nil))))))⟩⟩)⟩)))⟩)⟩))))))))) (fun s_2 => (cond_split (fun _ => (cb_ret (ce_pure pe_c ⟨_, rfl, rfl, trivial⟩))) (fun _ => (cb_nil (cb_seq (cb_asg (ce_pure (pe_var rfl) ⟨_, rfl, (cg_un (eT4 eD eD eD eD) un4_ok (fun u_3 => (cg_tp rfl (cgs_cons (cg_nm (cgs_cons (cg_nm (cgs_cons (cg_nm (cgs_cons (cg_nm (cgs_nil (cb_at ([some (.dat (eD p_thing)), some (.dat (eD u_3.1)), some (.dat (eD u_3.2.1)), some (.dat (eD u_3.2.2.1)), some (.dat (eD u_3.2.2.2)), none] : AS) rfl (cb_seq (cb_if (ct_join (σ := Bool) (fun s => s) (fun s => ([some (.dat (eD p_thing)), some (.dat (eD u_3.1)), some (.dat (eD u_3.2.1)), some (.dat (eD u_3.2.2.1)), some (.dat (eD u_3.2.2.2)), none] : AS)) (ct_or (ct_not (ct_tru (ce_call0 (pa_cons (pe_var rfl) (pa_cons pe_c (pa_cons pe_c pa_nil))) rfl (R_is_within_ddd u_3.1 (eI 1) (eI 60)) (fun r_4 => ⟨_, _, rfl, rfl, (or_ct (fun _ => ⟨_, rfl, rfl, (.keep (.keep (.keep (.keep (.keep (.drop .nil))))))⟩) (fun _ => (ct_or (ct_not (ct_tru (ce_call0 (pa_cons (pe_var rfl) (pa_cons pe_c (pa_cons pe_c pa_nil))) rfl (R_is_within_ddd u_3.2.1 (eI 1) (eI 10)) (fun r_5 => ⟨_, _, rfl, rfl, (or_ct (fun _ => ⟨_, rfl, rfl, (.keep (.keep (.keep (.keep (.keep (.drop .nil))))))⟩) (fun _ => (ct_not (ct_tru (ce_call0 (pa_cons (pe_var rfl) (pa_cons (pe_var rfl) (pa_cons (pe_var rfl) pa_nil))) rfl (R_are_spans_ddd u_3.2.2.1 u_3.1 u_3.2.1) (fun r_6 => ⟨_, _, rfl, rfl, ⟨_, rfl, rfl, (.keep (.keep (.keep (.keep (.keep (.drop .nil))))))⟩⟩) trivial)))))⟩) trivial))))))⟩) trivial)))) (fun s_7 => (cond_split (fun _ => (cb_ret (ce_pure pe_c ⟨_, rfl, rfl, trivial⟩))) (fun _ => (cb_nil (cb_seq (cb_if (ct_join (σ := Bool) (fun s => s) (fun s => ([some (.dat (eD p_thing)), some (.dat (eD u_3.1)), some (.dat (eD u_3.2.1)), some (.dat (eD u_3.2.2.1)), some (.dat (eD u_3.2.2.2)), none] : AS)) (ct_or (ct_pure (pt_not (pt_tru (PE1.pl (pe_isi (PL.plr (PE1.pl (pe_var rfl))))) rfl)) (or_ct (fun _ => ⟨_, rfl, rfl, (.keep (.keep (.keep (.keep (.keep (.drop .nil))))))⟩) (fun _ => (ct_of (ce_bin (ce_cb (ca_dat (ce_pure (pe_var rfl) ⟨_, rfl, (ca_nil ⟨_, (.cons rfl .nil), (fin_of eI (o_lenD _) (fun v_8 => (ce_pure pe_c ⟨_, _, rfl, rfl, (fin_ok rfl ⟨_, rfl, ⟨_, rfl, rfl, (.keep (.keep (.keep (.keep (.keep (.drop .nil))))))⟩⟩)⟩)))⟩)⟩))))))))) (fun s_9 => (cond_split (fun _ => (cb_ret (ce_pure pe_c ⟨_, rfl, rfl, trivial⟩))) (fun _ => (cb_nil (cb_ret (ce_cb (ca_dat (ce_lc eB (tgin_nm (by decide)) (ci_seqD (ce_pure (pe_var rfl) ⟨_, _, rfl, rfl, fun xs_10 => ⟨D, Unit, eD, (fun (s : Unit) => ([some (.dat (eD p_thing)), some (.dat (eD u_3.1)), some (.dat (eD u_3.2.1)), some (.dat (eD u_3.2.2.1)), some (.dat (eD u_3.2.2.2)), none] : AS)), _, _, _, _, rfl, (.keep (.keep (.keep (.keep (.keep (.drop .nil)))))), (hvs_cons (fun _ => rfl) hvs_nil), rfl, fun x_11 s_12 => (cg_nm (ct_pure pt_yes ⟨fun _ => (ce_call0 (pa_cons (pe_var rfl) (pa_cons (pe_var rfl) pa_nil)) rfl (R_is_bound_dd x_11 u_3.2.1) (fun r_13 => ⟨_, _, rfl, rfl, (.keep (.keep (.keep (.keep (.keep (.drop .nil))))))⟩) trivial), fun h => nomatch h⟩)), fun ys_15 s_16 => ⟨_, rfl, (ca_nil ⟨_, (.cons rfl .nil), (fin_ok (o_all ys_15) ⟨_, rfl, rfl, trivial⟩)⟩)⟩⟩⟩)))))))))))))))))))))))))))))))))⟩))))))))))
theorem R_check_book_d (p_book : D) : RFn F_check_book [.dat (eD p_book)] (T_check_book p_book) (fun (r : Unit) => SV.dat (eN r)) (fun (r : Unit) => []) := by
  unfold T_check_book F_check_book b_check_book
  exact rf_fnA ([some (.dat (eD p_book))] : AS) [] (np_d np_n) rfl rfl
    (cb_if (ct_not (ct_tru (ce_call0 (pa_cons (pe_var rfl) pa_nil) rfl (R_is_book_d p_book) (fun r_1 => ⟨_, _, rfl, rfl, (cond_split (fun _ => (cb_raise trivial)) (fun _ => (cb_nil ⟨_, rfl, rfl, trivial⟩)))⟩) trivial))))
theorem R_read_book_d (p_text : Str) : RFn F_read_book [.dat (eS p_text)] (T_read_book p_text) (fun (r : (Option (D × D × D × D))) => SV.dat ((eO (eT4 eD eD eD eD)) r)) (fun (r : (Option (D × D × D × D))) => []) := by
  unfold T_read_book F_read_book b_read_book
  exact rf_fnA ([some (.dat (eS p_text)), none, none, none, none, none] : AS) [] (np_d np_n) rfl rfl
    (cb_seq (cb_if (ct_pure (pt_not (pt_tru (PE1.pl (pe_isi (PL.plr (PE1.pl (pe_var rfl))))) rfl)) (cond_split (fun _ => (cb_raiseF pe_c trivial)) (fun _ => (cb_nil (cb_seq (cb_setP (eO (eT4 eD eD eD eD)) (pe_tup (pa_cons pe_c (pa_cons pe_c (pa_cons (pe_tup pa_nil (leB rfl)) (pa_cons (pe_tup pa_nil (leB rfl)) pa_nil)))) (leB rfl)) (fun book_2 => (cb_seq (cb_set (ce_sm (ce_pure (pe_var rfl) ⟨⟨_, rfl⟩, (ce_pure pe_c ⟨_, _, rfl, rfl, (fin_of (eL eS) (o_split _ _) (fun v_3 => (.inl ⟨_, rfl, (cb_seq (cb_for (ci_enum (ca_pure (pa_cons (pe_var rfl) pa_nil) ⟨_, .inl rfl, (cl_foldI (σ := (Option (D × D × D × D))) (eT2 eI eS) (fun (s : (Option (D × D × D × D))) => ([some (.dat (eS p_text)), some (.dat ((eO (eT4 eD eD eD eD)) s)), some (.dat ((eL eS) v_3)), none, none, none] : AS)) (fun x_4 s_5 => (cg_tp rfl (cgs_cons (cg_nm (cgs_cons (cg_nm (cgs_nil (cb_seq (cb_set (ce_call0 (pa_cons (pe_var rfl) pa_nil) rfl (R_read_row_d x_4.2) (fun r_6 => (.inl ⟨_, rfl, (cb_seq (cb_if (ct_pure (pt_of (pe_bin (PE1.pl (pe_var rfl)) (PE1.pl pe_c) (o_isN (eT2 eS (eV (eO eI))) (fun _ => rfl) _))) (cond_split (fun _ => (cb_raiseF (pe_var rfl) trivial)) (fun _ => (cb_nil (cb_seq (cb_set (ce_call0 (pa_cons (pe_var rfl) (pa_cons (pe_var rfl) (pa_cons (pe_var rfl) pa_nil))) rfl (R_with_row_ddd s_5 x_4.1 r_6) (fun r_8 => (.inl ⟨_, rfl, (cb_if (ct_join (σ := Bool) (fun s => s) (fun s => ([some (.dat (eS p_text)), some (.dat ((eO (eT4 eD eD eD eD)) r_8)), some (.dat ((eL eS) v_3)), some (.dat (eI x_4.1)), some (.dat (eS x_4.2)), some (.dat ((eO (eT2 eS (eV (eO eI)))) r_6))] : AS)) (ct_or (ct_pure (pt_of (pe_bin (PE1.pl (pe_var rfl)) (PE1.pl pe_c) (o_isN (eT4 eD eD eD eD) (fun _ => rfl) _))) (or_ct (fun _ => ⟨_, rfl, rfl, (.keep (.keep (.keep (.keep (.keep (.keep .nil))))))⟩) (fun _ => (ct_not (ct_tru (ce_call0 (pa_cons (pe_var rfl) pa_nil) rfl (R_is_book_d ((eO (eT4 eD eD eD eD)) r_8)) (fun r_9 => ⟨_, _, rfl, rfl, ⟨_, rfl, rfl, (.keep (.keep (.keep (.keep (.keep (.keep .nil))))))⟩⟩) trivial))))))) (fun s_10 => (cond_split (fun _ => (cb_raiseF (pe_var rfl) trivial)) (fun _ => (cb_nil ⟨_, rfl, (.keep (.keep (.keep (.drop (.drop (.drop .nil))))))⟩))))))⟩)) trivial)))))))))⟩)) trivial)))))))))) (fun s_12 => (cb_seq (cb_if (ct_pure (pt_of (pe_bin (PE1.pl (pe_cb (pla_cons (PL.plr (PE1.pl (pe_var rfl))) pla_nil) (o_lenL eS v_3))) (PE1.pl pe_c) (o_eqI _ _))) (cond_split (fun _ => (cb_raiseF pe_c trivial)) (fun _ => (cb_nil (cb_ret (ce_pure (pe_var rfl) ⟨_, rfl, rfl, trivial⟩))))))))) (enum_T eS v_3) (.keep (.keep (.keep (.drop (.drop (.drop .nil)))))))⟩))))⟩)))⟩)⟩)))))))))))))
theorem R_show_book_d (p_book : (Int × Int × (List (Int × Int × Int × Int)) × (List (Int × Int × Int)))) : RFn F_show_book [.dat ((eT4 eI eI (eV (eT4 eI eI eI eI)) (eV (eT3 eI eI eI))) p_book)] (T_show_book p_book) (fun (r : Str) => SV.dat (eS r)) (fun (r : Str) => []) := by
  unfold T_show_book F_show_book b_show_book
  exact rf_fnA ([some (.dat ((eT4 eI eI (eV (eT4 eI eI eI eI)) (eV (eT3 eI eI eI))) p_book)), none, none, none, none, none, none] : AS) [] (np_d np_n) rfl rfl
    (cb_seq (cb_expr (ce_call0 (pa_cons (pe_var rfl) pa_nil) rfl (R_check_book_d ((eT4 eI eI (eV (eT4 eI eI eI eI)) (eV (eT3 eI eI eI))) p_book)) (fun r_1 => (cb_seq (cb_set (ce_lstM (ca_dat (ce_js (pfs_s pe_c (pfs_fi (pe_ix (PL.plr (PE1.pl (pe_var rfl))) (PE1.pl pe_c) rfl) pfs_nil)) (fin_of eS rfl (fun v_2 => ⟨_, rfl, (ca_dat (ce_js (pfs_s pe_c (pfs_fi (pe_ix (PL.plr (PE1.pl (pe_var rfl))) (PE1.pl pe_c) rfl) pfs_nil)) (fin_of eS rfl (fun v_3 => ⟨_, rfl, (ca_nil ⟨[(eS v_2), (eS v_3)], rfl, leB rfl, (.inr ⟨_, rfl, (cb_seq (cb_for (ci_seq (ce_pure (pe_ix (PL.plr (PE1.pl (pe_var rfl))) (PE1.pl pe_c) rfl) ⟨_, .inr (.inl rfl), (cl_foldI (σ := (List Str)) (eT4 eI eI eI eI) (fun (s : (List Str)) => ([some (.dat ((eT4 eI eI (eV (eT4 eI eI eI eI)) (eV (eT3 eI eI eI))) p_book)), some (.ob (O.lst (List.map eS s))), none, none, none, none, none] : AS)) (fun x_4 s_5 => (cg_tp rfl (cgs_cons (cg_nm (cgs_cons (cg_nm (cgs_cons (cg_nm (cgs_cons (cg_nm (cgs_nil (cb_app eS (.m rfl rfl) (ce_js (pfs_s pe_c (pfs_fi (pe_var rfl) (pfs_s pe_c (pfs_fi (pe_var rfl) (pfs_s pe_c (pfs_fi (pe_var rfl) (pfs_s pe_c (pfs_fi (pe_var rfl) pfs_nil)))))))) (fin_of eS rfl (fun v_6 => ⟨_, v_6, _, _, rfl, (.m rfl rfl), rfl, ⟨_, rfl, (.keep (.keep (.drop (.drop (.drop (.drop (.drop .nil)))))))⟩⟩))))))))))))))) (fun s_7 => (cb_seq (cb_for (ci_seq (ce_pure (pe_ix (PL.plr (PE1.pl (pe_var rfl))) (PE1.pl pe_c) rfl) ⟨_, .inr (.inl rfl), (cl_foldI (σ := (List Str)) (eT3 eI eI eI) (fun (s : (List Str)) => ([some (.dat ((eT4 eI eI (eV (eT4 eI eI eI eI)) (eV (eT3 eI eI eI))) p_book)), some (.ob (O.lst (List.map eS s))), none, none, none, none, none] : AS)) (fun x_8 s_9 => (cg_tp rfl (cgs_cons (cg_nm (cgs_cons (cg_nm (cgs_cons (cg_nm (cgs_nil (cb_app eS (.m rfl rfl) (ce_js (pfs_s pe_c (pfs_fi (pe_var rfl) (pfs_s pe_c (pfs_fi (pe_var rfl) (pfs_s pe_c (pfs_fi (pe_var rfl) pfs_nil)))))) (fin_of eS rfl (fun v_10 => ⟨_, v_10, _, _, rfl, (.m rfl rfl), rfl, ⟨_, rfl, (.keep (.keep (.drop (.drop (.drop (.drop (.drop .nil)))))))⟩⟩))))))))))))) (fun s_11 => (cb_frz rfl (cb_ret (ce_sm (ce_pure pe_c ⟨⟨_, rfl⟩, (ce_pure (pe_var rfl) ⟨_, _, rfl, rfl, (fin_of eS (o_joinL _ _) (fun v_12 => ⟨_, rfl, rfl, trivial⟩))⟩)⟩))))) rfl (.keep (.keep (.drop (.drop (.drop (.drop (.drop .nil))))))))⟩))))) rfl (.keep (.keep (.drop (.drop (.drop (.drop (.drop .nil))))))))⟩))))⟩)⟩)⟩))))⟩)))))))) trivial)))
theorem R_law_refused_dd (p_rows_here : (List Str)) (p_row : Int) : RFn F__law_refused [.dat ((eL eS) p_rows_here), .dat (eI p_row)] (T_law_refused p_rows_here p_row) (fun (r : Bool) => SV.dat (eB r)) (fun (r : Bool) => []) := by
  unfold T_law_refused F__law_refused b__law_refused
  exact rf_fnA ([some (.dat ((eL eS) p_rows_here)), some (.dat (eI p_row)), none, none] : AS) [] (np_d (np_d np_n)) rfl rfl
    (cb_seq (cb_setP eD pe_c (fun caught_1 => (cb_seq (cb_tryE (σ := D) (ρr := Bool) ([some (.dat ((eL eS) p_rows_here)), some (.dat (eI p_row)), some (.dat (eD caught_1)), none] : AS) (fun (s : D) => ([some (.dat ((eL eS) p_rows_here)), some (.dat (eI p_row)), some (.dat (eD s)), none] : AS)) (fun v B r => RtOk B v ((fun (r : Bool) => SV.dat (eB r)) r) ∧ Prs [] 0 B ((fun (r : Bool) => ([] : List O)) r)) (cb_expr (ce_call (ca_dat (ce_sm (ce_pure pe_c ⟨⟨_, rfl⟩, (ce_pure (pe_var rfl) ⟨_, _, rfl, rfl, (fin_of eS (o_joinL _ _) (fun v_3 => ⟨_, rfl, (ca_nil ⟨_, _, _, _, _, _, _, rfl, (.dat .nil), rfl, (show List.Nodup ([] : List Nat) from by decide), R_read_book_d v_3, fun r_2 => ⟨_, rfl, (.keep (.keep (.keep (.drop .nil))))⟩, fun x es _ _ => (.keep (.keep (.keep (.drop .nil))))⟩)⟩))⟩)⟩))))) (fun x_4 => (cb_set (ce_xf (ce_er rfl ⟨_, rfl, fin_of eD (map_id' _) (fun v_5 => (.inl ⟨_, rfl, ⟨_, rfl, (.keep (.keep (.keep (.drop .nil))))⟩⟩))⟩)))) (fun s_6 => (cb_ret (ce_join (σ := Bool) (fun s => (eB s)) (fun s => ([some (.dat ((eL eS) p_rows_here)), some (.dat (eI p_row)), some (.dat (eD s_6)), none] : AS)) (ce_and (ce_bin (ce_pure (pe_var rfl) (ce_pure (pe_var rfl) ⟨_, _, rfl, rfl, (fin_of eB (o_eqX _ _) (fun v_7 => ⟨_, rfl, and_ce (fun _ => (ce_pure (pe_not (pe_isi (PL.plr (PE1.pl (pe_var rfl))))) ⟨_, rfl, rfl, (.keep (.keep (.keep (.drop .nil))))⟩)) (fun _ => ⟨_, rfl, rfl, (.keep (.keep (.keep (.drop .nil))))⟩)⟩))⟩)))) (fun s_8 => ⟨_, rfl, rfl, trivial⟩)))) (fun v B r h => ⟨_, rfl, h⟩))))))
theorem R_law_reads_dd (p_rows_here : (List Str)) (p_book_here : (Int × Int × (List (Int × Int × Int × Int)) × (List (Int × Int × Int)))) : RFn F__law_reads [.dat ((eL eS) p_rows_here), .dat ((eT4 eI eI (eV (eT4 eI eI eI eI)) (eV (eT3 eI eI eI))) p_book_here)] (T_law_reads p_rows_here p_book_here) (fun (r : Bool) => SV.dat (eB r)) (fun (r : Bool) => []) := by
  unfold T_law_reads F__law_reads b__law_reads
  exact rf_fnA ([some (.dat ((eL eS) p_rows_here)), some (.dat ((eT4 eI eI (eV (eT4 eI eI eI eI)) (eV (eT3 eI eI eI))) p_book_here)), none, none] : AS) [] (np_d (np_d np_n)) rfl rfl
    (cb_seq (cb_set (ce_sm (ce_pure pe_c ⟨⟨_, rfl⟩, (ce_pure (pe_var rfl) ⟨_, _, rfl, rfl, (fin_of eS (o_joinL _ _) (fun v_1 => (.inl ⟨_, rfl, (cb_seq (cb_set (ce_call0 (pa_cons (pe_var rfl) pa_nil) rfl (R_read_book_d v_1) (fun r_2 => (.inl ⟨_, rfl, (cb_ret (ce_join (σ := Bool) (fun s => (eB s)) (fun s => ([some (.dat ((eL eS) p_rows_here)), some (.dat ((eT4 eI eI (eV (eT4 eI eI eI eI)) (eV (eT3 eI eI eI))) p_book_here)), some (.dat (eS v_1)), some (.dat ((eO (eT4 eD eD eD eD)) r_2))] : AS)) (ce_and (ce_bin (ce_pure (pe_var rfl) (ce_pure (pe_var rfl) ⟨_, _, rfl, rfl, (fin_of eB (o_eqX _ _) (fun v_3 => ⟨_, rfl, and_ce (fun _ => (ce_and (ce_pure (pe_isi (PL.plr (PE1.pl (pe_var rfl)))) ⟨_, rfl, and_ce (fun _ => (ce_bin (ce_call0 (pa_cons (pe_var rfl) pa_nil) rfl (R_show_book_d p_book_here) (fun r_4 => (ce_pure (pe_var rfl) ⟨_, _, rfl, rfl, (fin_ok (o_eqS _ _) ⟨_, rfl, rfl, (.keep (.keep (.keep (.keep .nil))))⟩)⟩)) trivial))) (fun _ => ⟨_, rfl, rfl, (.keep (.keep (.keep (.keep .nil))))⟩)⟩))) (fun _ => ⟨_, rfl, rfl, (.keep (.keep (.keep (.keep .nil))))⟩)⟩))⟩)))) (fun s_5 => ⟨_, rfl, rfl, trivial⟩)))⟩)) trivial)))⟩)))⟩)⟩))))
theorem R_law_begins_right_d (p_book_here : (Int × Int × (List (Int × Int × Int × Int)) × (List (Int × Int × Int)))) : RFn F__law_begins_right [.dat ((eT4 eI eI (eV (eT4 eI eI eI eI)) (eV (eT3 eI eI eI))) p_book_here)] (T_law_begins_right p_book_here) (fun (r : Bool) => SV.dat (eB r)) (fun (r : Bool) => []) := by
  unfold T_law_begins_right F__law_begins_right b__law_begins_right
  exact rf_fnA ([some (.dat ((eT4 eI eI (eV (eT4 eI eI eI eI)) (eV (eT3 eI eI eI))) p_book_here)), none, none, none, none, none, none, none, none] : AS) [] (np_d np_n) rfl rfl
    (cb_seq (cb_asg (ce_pure (pe_var rfl) ⟨_, rfl, (cg_tp rfl (cgs_cons (cg_nm (cgs_cons (cg_nm (cgs_cons (cg_nm (cgs_cons (cg_nm (cgs_nil (cb_at ([some (.dat ((eT4 eI eI (eV (eT4 eI eI eI eI)) (eV (eT3 eI eI eI))) p_book_here)), some (.dat (eI p_book_here.1)), some (.dat (eI p_book_here.2.1)), some (.dat ((eV (eT4 eI eI eI eI)) p_book_here.2.2.1)), some (.dat ((eV (eT3 eI eI eI)) p_book_here.2.2.2)), none, none, none, none] : AS) rfl (cb_seq (cb_set (ce_call0 (pa_cons (pe_var rfl) pa_nil) rfl (R_law_rows_d p_book_here) (fun r_1 => (.inl ⟨_, rfl, (cb_seq (cb_for (ci_r2 (ca_pure (pa_cons pe_c (pa_cons (pe_bin (PE1.pl (pe_cb (pla_cons (PL.plr (PE1.pl (pe_var rfl))) pla_nil) (o_lenL eS r_1))) (PE1.pl pe_c) rfl) pa_nil)) ⟨_, _, _, rfl, rfl, fun xs_2 => (cl_forI (σ := Unit) (ρr := Bool) eI (fun (s : Unit) => ([some (.dat ((eT4 eI eI (eV (eT4 eI eI eI eI)) (eV (eT3 eI eI eI))) p_book_here)), some (.dat (eI p_book_here.1)), some (.dat (eI p_book_here.2.1)), some (.dat ((eV (eT4 eI eI eI eI)) p_book_here.2.2.1)), some (.dat ((eV (eT3 eI eI eI)) p_book_here.2.2.2)), some (.dat ((eL eS) r_1)), none, none, none] : AS)) (fun v B r => RtOk B v ((fun (r : Bool) => SV.dat (eB r)) r) ∧ Prs [] 0 B ((fun (r : Bool) => ([] : List O)) r)) (fun x_3 s_4 => (cg_nm (cb_seq (cb_setP eI (pe_bin (PE1.pl (pe_var rfl)) (PE1.pl pe_c) rfl) (fun first_5 => (cb_seq (cb_setP (eT4 eI eI (eV (eT4 eI eI eI eI)) (eV (eT3 eI eI eI))) (pe_tup (pa_cons (pe_var rfl) (pa_cons (pe_var rfl) (pa_cons (pe_sl (PL.plr (PE1.pl (pe_var rfl))) po_none (po_some (pe_var rfl)) (o_slV (eT4 eI eI eI eI) p_book_here.2.2.1 _ _)) (pa_cons (pe_sl (PL.plr (PE1.pl (pe_var rfl))) po_none (po_some (pe_cb (pla_cons (PL.plr (PE1.pl pe_c)) (pla_cons (PL.plr (PE1.pl (pe_bin (PE1.pl (pe_var rfl)) (PE1.pl (pe_cb (pla_cons (PL.plr (PE1.pl (pe_var rfl))) pla_nil) (o_lenV (eT4 eI eI eI eI) p_book_here.2.2.1))) rfl))) pla_nil)) (o_max2 _ _))) (o_slV (eT3 eI eI eI) p_book_here.2.2.2 _ _)) pa_nil)))) (leB rfl)) (fun some_6 => (cb_if (ct_not (ct_tru (ce_call0 (pa_cons (pe_sl (PL.plr (PE1.pl (pe_var rfl))) po_none (po_some (pe_var rfl)) (o_slL eS r_1 _ _)) (pa_cons (pe_var rfl) pa_nil)) rfl (R_law_reads_dd (cutD r_1 none (some x_3)) some_6) (fun r_7 => ⟨_, _, rfl, rfl, (cond_split (fun _ => (cb_ret (ce_pure pe_c ⟨_, rfl, rfl, trivial⟩))) (fun _ => (cb_nil ⟨_, rfl, (.keep (.keep (.keep (.keep (.keep (.keep (.drop (.drop (.drop .nil)))))))))⟩)))⟩) trivial)))))))))))) (fun s_8 => (cb_ret (ce_join (σ := Bool) (fun s => (eB s)) (fun s => ([some (.dat ((eT4 eI eI (eV (eT4 eI eI eI eI)) (eV (eT3 eI eI eI))) p_book_here)), some (.dat (eI p_book_here.1)), some (.dat (eI p_book_here.2.1)), some (.dat ((eV (eT4 eI eI eI eI)) p_book_here.2.2.1)), some (.dat ((eV (eT3 eI eI eI)) p_book_here.2.2.2)), some (.dat ((eL eS) r_1)), none, none, none] : AS)) (ce_and (ce_call0 (pa_cons (pe_sl (PL.plr (PE1.pl (pe_var rfl))) po_none (po_some pe_c) (o_slL eS r_1 _ _)) (pa_cons pe_c pa_nil)) rfl (R_law_refused_dd (cutD r_1 none (some 1)) 0) (fun r_9 => ⟨_, rfl, and_ce (fun _ => (ce_call0 (pa_cons (pe_lst pa_nil (leB rfl)) (pa_cons pe_c pa_nil)) rfl (R_law_refused_dd [] 0) (fun r_10 => ⟨_, rfl, rfl, (.keep (.keep (.keep (.keep (.keep (.keep (.drop (.drop (.drop .nil)))))))))⟩) trivial)) (fun _ => ⟨_, rfl, rfl, (.keep (.keep (.keep (.keep (.keep (.keep (.drop (.drop (.drop .nil)))))))))⟩)⟩) trivial)) (fun s_11 => ⟨_, rfl, rfl, trivial⟩)))) (fun v B r h => ⟨_, rfl, h⟩) rfl (.keep (.keep (.keep (.keep (.keep (.keep (.drop (.drop (.drop .nil))))))))))⟩))))⟩)) trivial))))))))))))))⟩)))
theorem R_law_turned_right_od (p_pool_here : (List Int)) (p_book_here : (Int × Int × (List (Int × Int × Int × Int)) × (List (Int × Int × Int)))) : RFn F__law_turned_right [.ob (O.lst (List.map eI p_pool_here)), .dat ((eT4 eI eI (eV (eT4 eI eI eI eI)) (eV (eT3 eI eI eI))) p_book_here)] (T_law_turned_right p_pool_here p_book_here) (fun (r : (Bool × (List Int))) => SV.dat (eB r.1)) (fun (r : (Bool × (List Int))) => [(O.lst (List.map eI r.2))]) := by
  unfold T_law_turned_right F__law_turned_right b__law_turned_right
  exact rf_fnA ([some (.par 0 (O.lst (List.map eI p_pool_here))), some (.dat ((eT4 eI eI (eV (eT4 eI eI eI eI)) (eV (eT3 eI eI eI))) p_book_here)), none, none, none, none, none, none, none] : AS) [0] (np_o (np_d np_n)) rfl rfl
    (cb_seq (cb_asg (ce_pure (pe_var rfl) ⟨_, rfl, (cg_tp rfl (cgs_cons (cg_nm (cgs_cons (cg_nm (cgs_cons (cg_nm (cgs_cons (cg_nm (cgs_nil (cb_at ([some (.par 0 (O.lst (List.map eI p_pool_here))), some (.dat ((eT4 eI eI (eV (eT4 eI eI eI eI)) (eV (eT3 eI eI eI))) p_book_here)), some (.dat (eI p_book_here.1)), some (.dat (eI p_book_here.2.1)), some (.dat ((eV (eT4 eI eI eI eI)) p_book_here.2.2.1)), some (.dat ((eV (eT3 eI eI eI)) p_book_here.2.2.2)), none, none, none] : AS) rfl (cb_seq (cb_set (ce_callN (ca_sl (IsOb.p rfl) (ca_dat (ce_pure (pe_bin (PE1.pl (pe_cb (pla_cons (PL.plr (PE1.pl (pe_var rfl))) pla_nil) (o_lenV (eT3 eI eI eI) p_book_here.2.2.2))) (PE1.pl pe_c) rfl) ⟨_, rfl, (ca_nil ⟨(IsOb.p rfl), ⟨_, _, _, _, _, _, rfl, (.slp rfl (.dat .nil)), rfl, (show List.Nodup [0] from by decide), R_law_take_od p_pool_here (((List.length p_book_here.2.2.2 : Nat) : Int) + 1), fun r_1 => (.inl ⟨_, rfl, (cb_seq (cb_set (ce_lstM (ca_pure (pa_cons (pe_tup (pa_cons (pe_var rfl) (pa_cons (pe_var rfl) (pa_cons (pe_rev (PL.plr (PE1.pl (pe_var rfl))) (o_revV (eT4 eI eI eI eI) p_book_here.2.2.1)) (pa_cons (pe_var rfl) pa_nil)))) (leB rfl)) pa_nil) ⟨[((eT4 eI eI (eV (eT4 eI eI eI eI)) (eV (eT3 eI eI eI))) (p_book_here.1, p_book_here.2.1, (List.reverse p_book_here.2.2.1), p_book_here.2.2.2))], rfl, leB rfl, (.inr ⟨_, rfl, (cb_seq (cb_app (eT4 eI eI (eV (eT4 eI eI eI eI)) (eV (eT3 eI eI eI))) (.m rfl rfl) (ce_pure (pe_tup (pa_cons (pe_var rfl) (pa_cons (pe_var rfl) (pa_cons (pe_var rfl) (pa_cons (pe_rev (PL.plr (PE1.pl (pe_var rfl))) (o_revV (eT3 eI eI eI) p_book_here.2.2.2)) pa_nil)))) (leB rfl)) ⟨_, (p_book_here.1, p_book_here.2.1, p_book_here.2.2.1, (List.reverse p_book_here.2.2.2)), _, _, rfl, (.m rfl rfl), rfl, (cb_seq (cb_app (eT4 eI eI (eV (eT4 eI eI eI eI)) (eV (eT3 eI eI eI))) (.m rfl rfl) (ce_tup (ca_dat (ce_pure (pe_var rfl) ⟨_, rfl, (ca_dat (ce_pure (pe_var rfl) ⟨_, rfl, (ca_dat (ce_bin (ce_pure (pe_sl (PL.plr (PE1.pl (pe_var rfl))) (po_some pe_c) po_none (o_slV (eT4 eI eI eI eI) p_book_here.2.2.1 _ _)) (ce_pure (pe_sl (PL.plr (PE1.pl (pe_var rfl))) po_none (po_some pe_c) (o_slV (eT4 eI eI eI eI) p_book_here.2.2.1 _ _)) ⟨_, _, rfl, rfl, (fin_of (eV (eT4 eI eI eI eI)) (o_catV (eT4 eI eI eI eI) (cutD p_book_here.2.2.1 (some 1) none) (cutD p_book_here.2.2.1 none (some 1))) (fun v_2 => ⟨_, rfl, (ca_dat (ce_pure (pe_var rfl) ⟨_, rfl, (ca_nil ⟨[(eI p_book_here.1), (eI p_book_here.2.1), ((eV (eT4 eI eI eI eI)) v_2), ((eV (eT3 eI eI eI)) p_book_here.2.2.2)], rfl, leB rfl, ⟨_, (p_book_here.1, p_book_here.2.1, v_2, p_book_here.2.2.2), _, _, rfl, (.m rfl rfl), rfl, (cb_seq (cb_app (eT4 eI eI (eV (eT4 eI eI eI eI)) (eV (eT3 eI eI eI))) (.m rfl rfl) (ce_tup (ca_dat (ce_pure (pe_var rfl) ⟨_, rfl, (ca_dat (ce_pure (pe_var rfl) ⟨_, rfl, (ca_dat (ce_pure (pe_var rfl) ⟨_, rfl, (ca_dat (ce_bin (ce_pure (pe_sl (PL.plr (PE1.pl (pe_var rfl))) (po_some (pe_var rfl)) po_none (o_slV (eT3 eI eI eI) p_book_here.2.2.2 _ _)) (ce_pure (pe_sl (PL.plr (PE1.pl (pe_var rfl))) po_none (po_some (pe_var rfl)) (o_slV (eT3 eI eI eI) p_book_here.2.2.2 _ _)) ⟨_, _, rfl, rfl, (fin_of (eV (eT3 eI eI eI)) (o_catV (eT3 eI eI eI) (cutD p_book_here.2.2.2 (some r_1.1) none) (cutD p_book_here.2.2.2 none (some r_1.1))) (fun v_3 => ⟨_, rfl, (ca_nil ⟨[(eI p_book_here.1), (eI p_book_here.2.1), ((eV (eT4 eI eI eI eI)) p_book_here.2.2.1), ((eV (eT3 eI eI eI)) v_3)], rfl, leB rfl, ⟨_, (p_book_here.1, p_book_here.2.1, p_book_here.2.2.1, v_3), _, _, rfl, (.m rfl rfl), rfl, (cb_frz rfl (cb_ret (ce_cb (ca_dat (ce_lc eB (tgin_nm (by decide)) (ci_seq (ce_pure (pe_var rfl) ⟨_, .inl rfl, ⟨(Int × Int × (List (Int × Int × Int × Int)) × (List (Int × Int × Int))), Unit, (eT4 eI eI (eV (eT4 eI eI eI eI)) (eV (eT3 eI eI eI))), (fun (s : Unit) => ([some (.par 0 (O.lst (List.map eI r_1.2))), some (.dat ((eT4 eI eI (eV (eT4 eI eI eI eI)) (eV (eT3 eI eI eI))) p_book_here)), some (.dat (eI p_book_here.1)), some (.dat (eI p_book_here.2.1)), some (.dat ((eV (eT4 eI eI eI eI)) p_book_here.2.2.1)), some (.dat ((eV (eT3 eI eI eI)) p_book_here.2.2.2)), some (.dat (eI r_1.1)), some (.dat ((eL (eT4 eI eI (eV (eT4 eI eI eI eI)) (eV (eT3 eI eI eI)))) ((([(p_book_here.1, p_book_here.2.1, (List.reverse p_book_here.2.2.1), p_book_here.2.2.2)] ++ [(p_book_here.1, p_book_here.2.1, p_book_here.2.2.1, (List.reverse p_book_here.2.2.2))]) ++ [(p_book_here.1, p_book_here.2.1, v_2, p_book_here.2.2.2)]) ++ [(p_book_here.1, p_book_here.2.1, p_book_here.2.2.1, v_3)]))), none] : AS)), _, _, _, _, rfl, (.keep (.keep (.keep (.keep (.keep (.keep (.keep (.keep (.drop .nil))))))))), (hvs_cons (fun _ => rfl) hvs_nil), rfl, fun x_4 s_5 => (cg_nm (ct_pure pt_yes ⟨fun _ => (ce_call (ca_dat (ce_call0 (pa_cons (pe_var rfl) pa_nil) rfl (R_law_rows_d x_4) (fun r_7 => ⟨_, rfl, (ca_dat (ce_pure (pe_var rfl) ⟨_, rfl, (ca_nil ⟨_, _, _, _, _, _, _, rfl, (.dat (.dat .nil)), rfl, (show List.Nodup ([] : List Nat) from by decide), R_law_reads_dd r_7 x_4, fun r_6 => ⟨_, _, rfl, rfl, (.keep (.keep (.keep (.keep (.keep (.keep (.keep (.keep (.drop .nil)))))))))⟩, fun x es _ _ => trivial⟩)⟩))⟩) trivial))), fun h => nomatch h⟩)), fun ys_9 s_10 => ⟨_, rfl, (ca_nil ⟨_, (.cons rfl .nil), (fin_ok (o_all ys_9) ⟨_, rfl, rfl, ⟨rfl, trivial⟩⟩)⟩)⟩⟩⟩)))))))⟩⟩)⟩))⟩))))⟩))⟩))⟩)))))⟩⟩)⟩))⟩))⟩))))⟩))⟩)))))⟩)))⟩)⟩))))⟩)⟩⟩)⟩)))))))))))))))))⟩)))
theorem R_law_more_right_odd (p_pool_here : (List Int)) (p_book_here : (Int × Int × (List (Int × Int × Int × Int)) × (List (Int × Int × Int)))) (p_other : (Int × Int × (List (Int × Int × Int × Int)) × (List (Int × Int × Int)))) : RFn F__law_more_right [.ob (O.lst (List.map eI p_pool_here)), .dat ((eT4 eI eI (eV (eT4 eI eI eI eI)) (eV (eT3 eI eI eI))) p_book_here), .dat ((eT4 eI eI (eV (eT4 eI eI eI eI)) (eV (eT3 eI eI eI))) p_other)] (T_law_more_right p_pool_here p_book_here p_other) (fun (r : (Bool × (List Int))) => SV.dat (eB r.1)) (fun (r : (Bool × (List Int))) => [(O.lst (List.map eI r.2))]) := by
  unfold T_law_more_right F__law_more_right b__law_more_right
  exact rf_fnA ([some (.par 0 (O.lst (List.map eI p_pool_here))), some (.dat ((eT4 eI eI (eV (eT4 eI eI eI eI)) (eV (eT3 eI eI eI))) p_book_here)), some (.dat ((eT4 eI eI (eV (eT4 eI eI eI eI)) (eV (eT3 eI eI eI))) p_other)), none, none, none, none, none, none, none, none, none, none, none, none] : AS) [0] (np_o (np_d (np_d np_n))) rfl rfl
    (cb_seq (cb_asg (ce_pure (pe_var rfl) ⟨_, rfl, (cg_tp rfl (cgs_cons (cg_nm (cgs_cons (cg_nm (cgs_cons (cg_nm (cgs_cons (cg_nm (cgs_nil (cb_at ([some (.par 0 (O.lst (List.map eI p_pool_here))), some (.dat ((eT4 eI eI (eV (eT4 eI eI eI eI)) (eV (eT3 eI eI eI))) p_book_here)), some (.dat ((eT4 eI eI (eV (eT4 eI eI eI eI)) (eV (eT3 eI eI eI))) p_other)), some (.dat (eI p_book_here.1)), some (.dat (eI p_book_here.2.1)), some (.dat ((eV (eT4 eI eI eI eI)) p_book_here.2.2.1)), some (.dat ((eV (eT3 eI eI eI)) p_book_here.2.2.2)), none, none, none, none, none, none, none, none] : AS) rfl (cb_seq (cb_set (ce_callN (ca_dat (ce_pure (pe_var rfl) ⟨_, rfl, (ca_nil ⟨_, _, _, _, _, _, rfl, (.dat .nil), rfl, (show List.Nodup ([] : List Nat) from by decide), R_law_rows_d p_book_here, fun r_1 => (.inl ⟨_, rfl, (cb_seq (cb_set (ce_callN (ca_dat (ce_pure (pe_var rfl) ⟨_, rfl, (ca_nil ⟨_, _, _, _, _, _, rfl, (.dat .nil), rfl, (show List.Nodup ([] : List Nat) from by decide), R_law_rows_d p_other, fun r_2 => (.inl ⟨_, rfl, (cb_seq (cb_if (ct_not (ct_tru (ce_callN (ca_dat (ce_bin (ce_pure (pe_var rfl) (ce_pure (pe_var rfl) ⟨_, _, rfl, rfl, (fin_of (eL eS) (o_catL eS r_1 r_2) (fun v_4 => ⟨_, rfl, (ca_dat (ce_pure (pe_cb (pla_cons (PL.plr (PE1.pl (pe_var rfl))) pla_nil) (o_lenL eS r_1)) ⟨_, rfl, (ca_nil ⟨_, _, _, _, _, _, rfl, (.dat (.dat .nil)), rfl, (show List.Nodup ([] : List Nat) from by decide), R_law_refused_dd v_4 ((List.length r_1 : Nat) : Int), fun r_3 => ⟨_, _, rfl, rfl, (cond_split (fun _ => (cb_ret (ce_pure pe_c ⟨_, rfl, rfl, ⟨rfl, trivial⟩⟩))) (fun _ => (cb_nil (cb_seq (cb_if (ct_not (ct_tru (ce_callN (ca_dat (ce_bin (ce_pure (pe_var rfl) (ce_lst (ca_dat (ce_ix (ce_pure (pe_var rfl) (ce_pure pe_c ⟨_, _, rfl, rfl, (fin_of eS (o_ixL eS r_2 1) (fun v_6 => ⟨_, rfl, (ca_nil ⟨[(eS v_6)], rfl, leB rfl, ⟨_, _, rfl, rfl, (fin_of (eL eS) (o_catL eS r_1 [v_6]) (fun v_7 => ⟨_, rfl, (ca_dat (ce_pure (pe_cb (pla_cons (PL.plr (PE1.pl (pe_var rfl))) pla_nil) (o_lenL eS r_1)) ⟨_, rfl, (ca_nil ⟨_, _, _, _, _, _, rfl, (.dat (.dat .nil)), rfl, (show List.Nodup ([] : List Nat) from by decide), R_law_refused_dd v_7 ((List.length r_1 : Nat) : Int), fun r_5 => ⟨_, _, rfl, rfl, (cond_split (fun _ => (cb_ret (ce_pure pe_c ⟨_, rfl, rfl, ⟨rfl, trivial⟩⟩))) (fun _ => (cb_nil (cb_seq (cb_joinR (σ := (List Int)) (ρr := (Bool × (List Int))) (fun (s : (List Int)) => ([some (.par 0 (O.lst (List.map eI s))), some (.dat ((eT4 eI eI (eV (eT4 eI eI eI eI)) (eV (eT3 eI eI eI))) p_book_here)), some (.dat ((eT4 eI eI (eV (eT4 eI eI eI eI)) (eV (eT3 eI eI eI))) p_other)), some (.dat (eI p_book_here.1)), some (.dat (eI p_book_here.2.1)), some (.dat ((eV (eT4 eI eI eI eI)) p_book_here.2.2.1)), some (.dat ((eV (eT3 eI eI eI)) p_book_here.2.2.2)), some (.dat ((eL eS) r_1)), some (.dat ((eL eS) r_2)), none, none, none, none, none, none] : AS)) (fun v B r => RtOk B v ((fun (r : (Bool × (List Int))) => SV.dat (eB r.1)) r) ∧ Prs [0] 0 B ((fun (r : (Bool × (List Int))) => ([(O.lst (List.map eI r.2))] : List O)) r)) (cb_if (ct_pure (pt_of (pe_bin (PE1.pl (pe_var rfl)) (PE1.pl (pe_tup pa_nil (leB rfl))) (o_neE (a := (eV (eT4 eI eI eI eI))) (EqE.V (EqE.T4 eqE_I eqE_I eqE_I eqE_I)) (leB rfl) p_book_here.2.2.1 []))) (cond_split (fun _ => (cb_seq (cb_set (ce_callN (ca_sl (IsOb.p rfl) (ca_dat (ce_pure (pe_cb (pla_cons (PL.plr (PE1.pl (pe_var rfl))) pla_nil) (o_lenV (eT4 eI eI eI eI) p_book_here.2.2.1)) ⟨_, rfl, (ca_nil ⟨(IsOb.p rfl), ⟨_, _, _, _, _, _, rfl, (.slp rfl (.dat .nil)), rfl, (show List.Nodup [0] from by decide), R_law_take_od p_pool_here ((List.length p_book_here.2.2.1 : Nat) : Int), fun r_8 => (.inl ⟨_, rfl, (cb_seq (cb_setP eI (pe_bin (PE1.pl pe_c) (PE1.pl (pe_cb (pla_cons (PL.plr (PE1.pl (pe_var rfl))) pla_nil) (o_lenV (eT4 eI eI eI eI) p_book_here.2.2.1))) rfl) (fun size_9 => (cb_seq (cb_set (ce_bin (ce_bin (ce_pure (pe_sl (PL.plr (PE1.pl (pe_var rfl))) po_none (po_some (pe_var rfl)) (o_slL eS r_1 _ _)) (ce_lst (ca_dat (ce_ix (ce_pure (pe_var rfl) (ce_pure (pe_bin (PE1.pl pe_c) (PE1.pl (pe_var rfl)) rfl) ⟨_, _, rfl, rfl, (fin_of eS (o_ixL eS r_1 (2 + r_8.1)) (fun v_10 => ⟨_, rfl, (ca_nil ⟨[(eS v_10)], rfl, leB rfl, ⟨_, _, rfl, rfl, (fin_of (eL eS) (o_catL eS (cutD r_1 none (some size_9)) [v_10]) (fun v_11 => (ce_pure (pe_sl (PL.plr (PE1.pl (pe_var rfl))) (po_some (pe_var rfl)) po_none (o_slL eS r_1 _ _)) ⟨_, _, rfl, rfl, (fin_of (eL eS) (o_catL eS v_11 (cutD r_1 (some size_9) none)) (fun v_12 => (.inl ⟨_, rfl, (cb_seq (cb_if (ct_not (ct_tru (ce_callN (ca_dat (ce_pure (pe_var rfl) ⟨_, rfl, (ca_dat (ce_pure (pe_var rfl) ⟨_, rfl, (ca_nil ⟨_, _, _, _, _, _, rfl, (.dat (.dat .nil)), rfl, (show List.Nodup ([] : List Nat) from by decide), R_law_refused_dd v_12 size_9, fun r_13 => ⟨_, _, rfl, rfl, (cond_split (fun _ => (cb_ret (ce_pure pe_c ⟨_, rfl, rfl, ⟨rfl, trivial⟩⟩))) (fun _ => (cb_nil (cb_if (ct_not (ct_tru (ce_callN (ca_dat (ce_bin (ce_pure (pe_var rfl) (ce_lst (ca_dat (ce_ix (ce_pure (pe_var rfl) (ce_pure (pe_bin (PE1.pl pe_c) (PE1.pl (pe_var rfl)) rfl) ⟨_, _, rfl, rfl, (fin_of eS (o_ixL eS r_1 (2 + r_8.1)) (fun v_15 => ⟨_, rfl, (ca_nil ⟨[(eS v_15)], rfl, leB rfl, ⟨_, _, rfl, rfl, (fin_of (eL eS) (o_catL eS r_1 [v_15]) (fun v_16 => ⟨_, rfl, (ca_dat (ce_pure (pe_cb (pla_cons (PL.plr (PE1.pl (pe_var rfl))) pla_nil) (o_lenL eS r_1)) ⟨_, rfl, (ca_nil ⟨_, _, _, _, _, _, rfl, (.dat (.dat .nil)), rfl, (show List.Nodup ([] : List Nat) from by decide), R_law_refused_dd v_16 ((List.length r_1 : Nat) : Int), fun r_14 => ⟨_, _, rfl, rfl, (cond_split (fun _ => (cb_ret (ce_pure pe_c ⟨_, rfl, rfl, ⟨rfl, trivial⟩⟩))) (fun _ => (cb_nil ⟨_, rfl, (.keep (.keep (.keep (.keep (.keep (.keep (.keep (.keep (.keep (.drop (.drop (.drop (.drop (.drop (.drop .nil)))))))))))))))⟩)))⟩⟩)⟩))⟩))⟩⟩)⟩))⟩)))))))))))))))⟩⟩)⟩))⟩)))))))⟩)))⟩)))⟩⟩)⟩))⟩)))))))))))))⟩)⟩⟩)⟩))))))) (fun _ => (cb_nil ⟨_, rfl, (.keep (.keep (.keep (.keep (.keep (.keep (.keep (.keep (.keep (.drop (.drop (.drop (.drop (.drop (.drop .nil)))))))))))))))⟩))))) (fun s_17 => (cb_seq (cb_joinR (σ := (List Int)) (ρr := (Bool × (List Int))) (fun (s : (List Int)) => ([some (.par 0 (O.lst (List.map eI s))), some (.dat ((eT4 eI eI (eV (eT4 eI eI eI eI)) (eV (eT3 eI eI eI))) p_book_here)), some (.dat ((eT4 eI eI (eV (eT4 eI eI eI eI)) (eV (eT3 eI eI eI))) p_other)), some (.dat (eI p_book_here.1)), some (.dat (eI p_book_here.2.1)), some (.dat ((eV (eT4 eI eI eI eI)) p_book_here.2.2.1)), some (.dat ((eV (eT3 eI eI eI)) p_book_here.2.2.2)), some (.dat ((eL eS) r_1)), some (.dat ((eL eS) r_2)), none, none, none, none, none, none] : AS)) (fun v B r => RtOk B v ((fun (r : (Bool × (List Int))) => SV.dat (eB r.1)) r) ∧ Prs [0] 0 B ((fun (r : (Bool × (List Int))) => ([(O.lst (List.map eI r.2))] : List O)) r)) (cb_if (ct_pure (pt_of (pe_bin (PE1.pl (pe_var rfl)) (PE1.pl (pe_tup pa_nil (leB rfl))) (o_neE (a := (eV (eT3 eI eI eI))) (EqE.V (EqE.T3 eqE_I eqE_I eqE_I)) (leB rfl) p_book_here.2.2.2 []))) (cond_split (fun _ => (cb_seq (cb_set (ce_callN (ca_sl (IsOb.p rfl) (ca_dat (ce_pure (pe_cb (pla_cons (PL.plr (PE1.pl (pe_var rfl))) pla_nil) (o_lenV (eT3 eI eI eI) p_book_here.2.2.2)) ⟨_, rfl, (ca_nil ⟨(IsOb.p rfl), ⟨_, _, _, _, _, _, rfl, (.slp rfl (.dat .nil)), rfl, (show List.Nodup [0] from by decide), R_law_take_od s_17 ((List.length p_book_here.2.2.2 : Nat) : Int), fun r_18 => (.inl ⟨_, rfl, (cb_seq (cb_set (ce_bin (ce_pure (pe_var rfl) (ce_bin (ce_tup (ca_dat (ce_ix (ce_pure (pe_var rfl) (ce_pure (pe_var rfl) ⟨_, _, rfl, rfl, (fin_of (eT3 eI eI eI) (o_ixV (eT3 eI eI eI) p_book_here.2.2.2 r_18.1) (fun v_19 => ⟨_, rfl, (ca_nil ⟨[((eT3 eI eI eI) v_19)], rfl, leB rfl, (ce_pure (pe_bin (PE1.pl pe_c) (PE1.pl (pe_cb (pla_cons (PL.plr (PE1.pl (pe_var rfl))) pla_nil) (o_lenV (eT3 eI eI eI) p_book_here.2.2.2))) rfl) ⟨_, _, rfl, rfl, (fin_of (eV (eT3 eI eI eI)) (o_repV (eT3 eI eI eI) [v_19] (30 - ((List.length p_book_here.2.2.2 : Nat) : Int))) (fun v_20 => ⟨_, _, rfl, rfl, (fin_of (eV (eT3 eI eI eI)) (o_catV (eT3 eI eI eI) p_book_here.2.2.2 v_20) (fun v_21 => (.inl ⟨_, rfl, (cb_seq (cb_setP (eT4 eI eI (eV (eT4 eI eI eI eI)) (eV (eT3 eI eI eI))) (pe_tup (pa_cons (pe_var rfl) (pa_cons (pe_var rfl) (pa_cons (pe_var rfl) (pa_cons (pe_var rfl) pa_nil)))) (leB rfl)) (fun some_22 => (cb_seq (cb_if (ct_not (ct_tru (ce_call (ca_dat (ce_callN (ca_dat (ce_pure (pe_var rfl) ⟨_, rfl, (ca_nil ⟨_, _, _, _, _, _, rfl, (.dat .nil), rfl, (show List.Nodup ([] : List Nat) from by decide), R_law_rows_d some_22, fun r_24 => ⟨_, rfl, (ca_dat (ce_pure (pe_var rfl) ⟨_, rfl, (ca_nil ⟨_, _, _, _, _, _, _, rfl, (.dat (.dat .nil)), rfl, (show List.Nodup ([] : List Nat) from by decide), R_law_reads_dd r_24 some_22, fun r_23 => ⟨_, _, rfl, rfl, (cond_split (fun _ => (cb_ret (ce_pure pe_c ⟨_, rfl, rfl, ⟨rfl, trivial⟩⟩))) (fun _ => (cb_nil (cb_seq (cb_set (ce_tup (ca_dat (ce_pure (pe_var rfl) ⟨_, rfl, (ca_dat (ce_pure (pe_var rfl) ⟨_, rfl, (ca_dat (ce_pure (pe_var rfl) ⟨_, rfl, (ca_dat (ce_bin (ce_pure (pe_var rfl) (ce_pure (pe_sl (PL.plr (PE1.pl (pe_var rfl))) po_none (po_some pe_c) (o_slV (eT3 eI eI eI) v_21 _ _)) ⟨_, _, rfl, rfl, (fin_of (eV (eT3 eI eI eI)) (o_catV (eT3 eI eI eI) v_21 (cutD v_21 none (some 2))) (fun v_25 => ⟨_, rfl, (ca_nil ⟨[(eI p_book_here.1), (eI p_book_here.2.1), ((eV (eT4 eI eI eI eI)) p_book_here.2.2.1), ((eV (eT3 eI eI eI)) v_25)], rfl, leB rfl, (.inl ⟨_, rfl, (cb_seq (cb_if (ct_not (ct_tru (ce_callN (ca_dat (ce_callN (ca_dat (ce_pure (pe_var rfl) ⟨_, rfl, (ca_nil ⟨_, _, _, _, _, _, rfl, (.dat .nil), rfl, (show List.Nodup ([] : List Nat) from by decide), R_law_rows_d (p_book_here.1, p_book_here.2.1, p_book_here.2.2.1, v_25), fun r_27 => ⟨_, rfl, (ca_dat (ce_pure (pe_bin (PE1.pl pe_c) (PE1.pl (pe_cb (pla_cons (PL.plr (PE1.pl (pe_var rfl))) pla_nil) (o_lenV (eT4 eI eI eI eI) p_book_here.2.2.1))) rfl) ⟨_, rfl, (ca_nil ⟨_, _, _, _, _, _, rfl, (.dat (.dat .nil)), rfl, (show List.Nodup ([] : List Nat) from by decide), R_law_refused_dd r_27 (32 + ((List.length p_book_here.2.2.1 : Nat) : Int)), fun r_26 => ⟨_, _, rfl, rfl, (cond_split (fun _ => (cb_ret (ce_pure pe_c ⟨_, rfl, rfl, ⟨rfl, trivial⟩⟩))) (fun _ => (cb_nil (cb_seq (cb_setP (eT4 eI eI (eV (eT4 eI eI eI eI)) (eV (eT3 eI eI eI))) (pe_tup (pa_cons (pe_var rfl) (pa_cons (pe_var rfl) (pa_cons (pe_sl (PL.plr (PE1.pl (pe_var rfl))) po_none (po_some (pe_neg pe_c)) (o_slV (eT4 eI eI eI eI) p_book_here.2.2.1 _ _)) (pa_cons (pe_var rfl) pa_nil)))) (leB rfl)) (fun some_28 => (cb_seq (cb_set (ce_bin (ce_callN (ca_dat (ce_pure (pe_var rfl) ⟨_, rfl, (ca_nil ⟨_, _, _, _, _, _, rfl, (.dat .nil), rfl, (show List.Nodup ([] : List Nat) from by decide), R_law_rows_d some_28, fun r_29 => (ce_lst (ca_dat (ce_ix (ce_pure (pe_var rfl) (ce_pure (pe_bin (PE1.pl pe_c) (PE1.pl (pe_cb (pla_cons (PL.plr (PE1.pl (pe_var rfl))) pla_nil) (o_lenV (eT4 eI eI eI eI) p_book_here.2.2.1))) rfl) ⟨_, _, rfl, rfl, (fin_of eS (o_ixL eS r_1 (1 + ((List.length p_book_here.2.2.1 : Nat) : Int))) (fun v_30 => ⟨_, rfl, (ca_nil ⟨[(eS v_30)], rfl, leB rfl, ⟨_, _, rfl, rfl, (fin_of (eL eS) (o_catL eS r_29 [v_30]) (fun v_31 => (.inl ⟨_, rfl, (cb_if (ct_join (σ := Bool) (fun s => s) (fun s => ([some (.par 0 (O.lst (List.map eI r_18.2))), some (.dat ((eT4 eI eI (eV (eT4 eI eI eI eI)) (eV (eT3 eI eI eI))) p_book_here)), some (.dat ((eT4 eI eI (eV (eT4 eI eI eI eI)) (eV (eT3 eI eI eI))) p_other)), some (.dat (eI p_book_here.1)), some (.dat (eI p_book_here.2.1)), some (.dat ((eV (eT4 eI eI eI eI)) p_book_here.2.2.1)), some (.dat ((eV (eT3 eI eI eI)) p_book_here.2.2.2)), some (.dat ((eL eS) r_1)), some (.dat ((eL eS) r_2)), some (.dat (eI r_18.1)), none, none, some (.dat ((eV (eT3 eI eI eI)) v_21)), some (.dat ((eT4 eI eI (eV (eT4 eI eI eI eI)) (eV (eT3 eI eI eI))) some_28)), some (.dat ((eL eS) v_31))] : AS)) (ct_and (ct_pure (pt_of (pe_bin (PE1.pl (pe_var rfl)) (PE1.pl (pe_tup pa_nil (leB rfl))) (o_neE (a := (eV (eT4 eI eI eI eI))) (EqE.V (EqE.T4 eqE_I eqE_I eqE_I eqE_I)) (leB rfl) p_book_here.2.2.1 []))) (and_ct (fun _ => (ct_not (ct_tru (ce_callN (ca_dat (ce_pure (pe_var rfl) ⟨_, rfl, (ca_dat (ce_pure (pe_bin (PE1.pl (pe_cb (pla_cons (PL.plr (PE1.pl (pe_var rfl))) pla_nil) (o_lenL eS r_1))) (PE1.pl pe_c) rfl) ⟨_, rfl, (ca_nil ⟨_, _, _, _, _, _, rfl, (.dat (.dat .nil)), rfl, (show List.Nodup ([] : List Nat) from by decide), R_law_refused_dd v_31 (((List.length r_1 : Nat) : Int) - 1), fun r_32 => ⟨_, _, rfl, rfl, ⟨_, rfl, rfl, (.keep (.keep (.keep (.keep (.keep (.keep (.keep (.keep (.keep (.keep (.drop (.drop (.keep (.keep (.keep .nil)))))))))))))))⟩⟩⟩)⟩))⟩)))))) (fun _ => ⟨_, rfl, rfl, (.keep (.keep (.keep (.keep (.keep (.keep (.keep (.keep (.keep (.keep (.drop (.drop (.keep (.keep (.keep .nil)))))))))))))))⟩)))) (fun s_33 => (cond_split (fun _ => (cb_ret (ce_pure pe_c ⟨_, rfl, rfl, ⟨rfl, trivial⟩⟩))) (fun _ => (cb_nil ⟨_, rfl, (.keep (.keep (.keep (.keep (.keep (.keep (.keep (.keep (.keep (.drop (.drop (.drop (.drop (.drop (.drop .nil)))))))))))))))⟩))))))⟩)))⟩⟩)⟩))⟩)))))⟩)⟩))))))))))))⟩⟩)⟩))⟩⟩)⟩)))))))))⟩)⟩)⟩))⟩))))⟩))⟩))⟩))))))))⟩, fun x es _ _ => ⟨rfl, trivial⟩⟩)⟩))⟩⟩)⟩))))))))))))⟩)))⟩))⟩)⟩)⟩))⟩))))))))))⟩)⟩⟩)⟩))))))) (fun _ => (cb_nil ⟨_, rfl, (.keep (.keep (.keep (.keep (.keep (.keep (.keep (.keep (.keep (.drop (.drop (.drop (.drop (.drop (.drop .nil)))))))))))))))⟩))))) (fun s_34 => (cb_ret (ce_pure pe_c ⟨_, rfl, rfl, ⟨rfl, trivial⟩⟩))) (fun v B r h => ⟨_, rfl, h⟩)))) (fun v B r h => ⟨_, rfl, h⟩))))))⟩⟩)⟩))⟩))⟩⟩)⟩))⟩))))))))))))))))⟩⟩)⟩))⟩))⟩)))))))))⟩)⟩)⟩)))))⟩)⟩)⟩))))))))))))))))⟩)))
theorem R_law_s (p_script : List Int) : RFn F_law [.scr (List.map PyData.int p_script)] (T_law p_script) (fun (r : Bool) => SV.dat (eB r)) (fun (r : Bool) => []) := by
  unfold T_law F_law b_law
  exact rf_fnA ([some (.scr (List.map PyData.int p_script)), none, none, none, none, none] : AS) [] (np_s np_n) rfl rfl
    (cb_seq (cb_for (ci_r3 (ca_pure (pa_cons pe_c (pa_cons (pe_cb (pla_cons (PL.plr (PE1.pl pe_c)) (pla_cons (PL.plr (PE1.pl (pe_cb (pla_cons (PL.plr (PE1.pl (pe_cb (pla_cons (plr_scr rfl) pla_nil) (o_lenL eI p_script)))) (pla_cons (PL.plr (PE1.pl pe_c)) pla_nil)) (o_min2 _ _)))) pla_nil)) (o_max2 _ _)) (pa_cons pe_c pa_nil))) ⟨_, _, _, _, rfl, rfl, fun xs_1 => (cl_forI (σ := Unit) (ρr := Bool) eI (fun (s : Unit) => ([some (.scr (List.map PyData.int p_script)), none, none, none, none, none] : AS)) (fun v B r => RtOk B v ((fun (r : Bool) => SV.dat (eB r)) r) ∧ Prs [] 0 B ((fun (r : Bool) => ([] : List O)) r)) (fun x_2 s_3 => (cg_nm (cb_seq (cb_set (ce_callN (ca_scr rfl (ca_dat (ce_pure (pe_var rfl) ⟨_, rfl, (ca_nil ⟨_, _, _, _, _, _, rfl, (.scr (.dat .nil)), rfl, (show List.Nodup ([] : List Nat) from by decide), R_law_pool_sd p_script x_2, fun r_4 => (.inr ⟨_, rfl, (cb_seq (cb_set (ce_ix (ce_pure (pe_lst (pa_cons (pe_tup (pa_cons pe_c (pa_cons pe_c (pa_cons pe_c (pa_cons pe_c pa_nil)))) (leB rfl)) (pa_cons (pe_tup (pa_cons pe_c (pa_cons pe_c (pa_cons pe_c (pa_cons pe_c pa_nil)))) (leB rfl)) pa_nil)) (leB rfl)) (ce_bin (ce_callN (ca_sl (IsOb.m rfl) (ca_dat (ce_pure pe_c ⟨_, rfl, (ca_nil ⟨(IsOb.m rfl), ⟨_, _, _, _, _, _, rfl, (.sl rfl (.dat .nil)), rfl, (show List.Nodup [2] from by decide), R_law_take_od r_4 8, fun r_5 => (ce_pure pe_c ⟨_, _, rfl, rfl, (fin_ok (o_fdivC (by decide)) ⟨_, _, rfl, rfl, (fin_of (eT4 eI eI eI eI) (o_ixL (eT4 eI eI eI eI) [(6, 4, 8, 20), (10, 4, 30, 60)] (r_5.1 / 7)) (fun v_6 => (.inl ⟨_, rfl, (cb_seq (cb_set (ce_callN (ca_sl (IsOb.m rfl) (ca_dat (ce_pure (pe_ix (PL.plr (PE1.pl (pe_var rfl))) (PE1.pl pe_c) rfl) ⟨_, rfl, (ca_dat (ce_pure (pe_ix (PL.plr (PE1.pl (pe_var rfl))) (PE1.pl pe_c) rfl) ⟨_, rfl, (ca_dat (ce_pure (pe_ix (PL.plr (PE1.pl (pe_var rfl))) (PE1.pl pe_c) rfl) ⟨_, rfl, (ca_dat (ce_pure (pe_ix (PL.plr (PE1.pl (pe_var rfl))) (PE1.pl pe_c) rfl) ⟨_, rfl, (ca_nil ⟨(IsOb.m rfl), ⟨_, _, _, _, _, _, rfl, (.sl rfl (.dat (.dat (.dat (.dat .nil))))), rfl, (show List.Nodup [2] from by decide), R_law_book_odddd r_5.2 v_6.1 v_6.2.1 v_6.2.2.1 v_6.2.2.2, fun r_7 => (.inl ⟨_, rfl, (cb_seq (cb_set (ce_callN (ca_new (ce_callN (ca_scr rfl (ca_dat (ce_pure (pe_bin (PE1.pl (pe_var rfl)) (PE1.pl pe_c) rfl) ⟨_, rfl, (ca_nil ⟨_, _, _, _, _, _, rfl, (.scr (.dat .nil)), rfl, (show List.Nodup ([] : List Nat) from by decide), R_law_pool_sd p_script (x_2 + 1), fun r_9 => ⟨_, _, rfl, (pa_cons pe_c (pa_cons pe_c (pa_cons pe_c (pa_cons pe_c pa_nil)))), ⟨_, _, _, _, _, _, rfl, (.new (.dat (.dat (.dat (.dat .nil))))), rfl, (show List.Nodup ([] : List Nat) from by decide), R_law_book_odddd r_9 6 4 8 20, fun r_8 => (.inl ⟨_, rfl, (cb_seq (cb_if (ct_join (σ := (Bool × (List Int))) (fun s => s.1) (fun s => ([some (.scr (List.map PyData.int p_script)), some (.dat (eI x_2)), some (.ob (O.lst (List.map eI s.2))), some (.dat ((eT4 eI eI eI eI) v_6)), some (.dat ((eT4 eI eI (eV (eT4 eI eI eI eI)) (eV (eT3 eI eI eI))) r_7.1)), some (.dat ((eT4 eI eI (eV (eT4 eI eI eI eI)) (eV (eT3 eI eI eI))) r_8.1))] : AS)) (ct_or (ct_not (ct_tru (ce_call0 (pa_cons (pe_var rfl) pa_nil) rfl (R_law_begins_right_d r_7.1) (fun r_10 => ⟨_, _, rfl, rfl, (or_ct (fun _ => ⟨_, rfl, rfl, (.keep (.keep (.keep (.keep (.keep (.keep .nil))))))⟩) (fun _ => (ct_not (ct_tru (ce_call (ca_sl (IsOb.m rfl) (ca_dat (ce_pure (pe_var rfl) ⟨_, rfl, (ca_nil ⟨(IsOb.m rfl), ⟨_, _, _, _, _, _, _, rfl, (.sl rfl (.dat .nil)), rfl, (show List.Nodup [2] from by decide), R_law_turned_right_od r_7.2 r_7.1, fun r_11 => ⟨_, _, rfl, rfl, ⟨_, rfl, rfl, (.keep (.keep (.keep (.keep (.keep (.keep .nil))))))⟩⟩, fun x es _ _ => trivial⟩⟩)⟩))))))))⟩) trivial)))) (fun s_12 => (cond_split (fun _ => (cb_ret (ce_pure pe_c ⟨_, rfl, rfl, trivial⟩))) (fun _ => (cb_nil (cb_seq (cb_if (ct_not (ct_tru (ce_call (ca_sl (IsOb.m rfl) (ca_dat (ce_pure (pe_var rfl) ⟨_, rfl, (ca_dat (ce_pure (pe_var rfl) ⟨_, rfl, (ca_nil ⟨(IsOb.m rfl), ⟨_, _, _, _, _, _, _, rfl, (.sl rfl (.dat (.dat .nil))), rfl, (show List.Nodup [2] from by decide), R_law_more_right_odd s_12.2 r_7.1 r_8.1, fun r_13 => ⟨_, _, rfl, rfl, (cond_split (fun _ => (cb_ret (ce_pure pe_c ⟨_, rfl, rfl, trivial⟩))) (fun _ => (cb_nil (cb_if (ct_not (ct_tru (ce_call (ca_dat (ce_call0 (pa_cons (pe_var rfl) pa_nil) rfl (R_law_rows_d r_7.1) (fun r_15 => ⟨_, rfl, (ca_dat (ce_pure (pe_var rfl) ⟨_, rfl, (ca_nil ⟨_, _, _, _, _, _, _, rfl, (.dat (.dat .nil)), rfl, (show List.Nodup ([] : List Nat) from by decide), R_law_reads_dd r_15 r_7.1, fun r_14 => ⟨_, _, rfl, rfl, (cond_split (fun _ => (cb_ret (ce_pure pe_c ⟨_, rfl, rfl, trivial⟩))) (fun _ => (cb_nil ⟨_, rfl, (.keep (.drop (.drop (.drop (.drop (.drop .nil))))))⟩)))⟩, fun x es _ _ => trivial⟩)⟩))⟩) trivial)))))))))⟩, fun x es _ _ => trivial⟩⟩)⟩))⟩)))))))))))))))⟩)⟩⟩⟩)⟩))))))))⟩)⟩⟩)⟩))⟩))⟩))⟩))))))⟩)))⟩)⟩)⟩⟩)⟩)))))))))⟩)⟩)⟩)))))))) (fun s_16 => (cb_ret (ce_pure pe_c ⟨_, rfl, rfl, trivial⟩))) (fun v B r h => ⟨_, rfl, h⟩) rfl (.keep (.drop (.drop (.drop (.drop (.drop .nil)))))))⟩))))
end Law
namespace Law
open PySem L2 DL
theorem within_int (x a b : Int) : T_is_within (.int x) (.int a) (.int b) = .ok (decide (a ≤ x) && decide (x ≤ b)) := by
  unfold T_is_within T_is_whole
  by_cases h : a ≤ x <;> simp [isiD, cmpT, h]
theorem is_span_ok {e n : Int} {s : Sp} (h : SpOk e n s) : T_is_span (eSp s) (.int e) (.int n) = .ok true := by
  have h1 : T_is_within (.int s.1) (.int 0) (.int (n - 1)) = .ok true := by rw [within_int]; simp [h.a0, h.a1]
  have h2 : T_is_within (.int s.2.1) (.int 1) (.int (n - 1)) = .ok true := by rw [within_int]; simp [h.g0, h.g1]
  have h3 : T_is_within (.int s.2.2.2) (.int 1) (.int e) = .ok true := by have := h.l0; have := h.lm; have := h.me; rw [within_int]; simp; omega
  have h4 : T_is_within (.int s.2.2.1) (.int 1) (.int s.2.2.2) = .ok true := by have := h.l0; have := h.lm; rw [within_int]; simp; omega
  have h5 : eqB (.int s.1) (.int s.2.1) = some false := by rw [eqB_int]; simp [h.ne]
  unfold T_is_span
  simp [isiD, lenT, un4, subD, h1, h2, h3, h4, h5]
theorem is_bound_ok {n : Int} {b : Bd} (h : BdOk n b) : T_is_bound (eBd b) (.int n) = .ok true := by
  have h1 : T_is_within (.int b.1) (.int 0) (.int (n - 1)) = .ok true := by rw [within_int]; simp [h.a0, h.a1]
  have h2 : T_is_within (.int b.2.1) (.int 0) (.int (n - 1)) = .ok true := by rw [within_int]; simp [h.b0, h.b1]
  have h3 : T_is_within (.int b.2.2) (.int (0 - 60)) (.int 60) = .ok true := by have := h.w0; have := h.w1; rw [within_int]; simp; omega
  have h5 : eqB (.int b.1) (.int b.2.1) = some false := by rw [eqB_int]; simp [h.ne]
  unfold T_is_bound
  have h3' : T_is_within (.int b.2.2) (.int (-60)) (.int 60) = .ok true := h3
  simp [isiD, lenT, un3, subD, h1, h2, h3', h5]
noncomputable def KD (sps : List Sp) (k : Int) : List (Int × Int) := (enumT k sps).map fun p => (p.2.2.1, p.1)
theorem KD_get : ∀ (sps : List Sp) (k : Nat) (m : Int), getT (KD sps k) m = (fnd sps k m).map fun p => (p.1 : Int)
  | [], k, m => rfl
  | s :: r, k, m => by
    have ih := KD_get r (k + 1) m
    show getT ((s.2.1, (k : Int)) :: KD r ((k : Int) + 1)) m = _
    rw [getT_cons, fnd]
    by_cases z : s.2.1 = m
    · simp [z]
    · simp only [if_neg z]; exact ih
theorem KD_app (sps : List Sp) (s : Sp) : ∀ k : Int, KD (sps ++ [s]) k = KD sps k ++ [(s.2.1, k + sps.length)] := by
  induction sps with
  | nil => intro k; simp [KD, enumT]
  | cons x r ih =>
    intro k
    have := ih (k + 1)
    simp only [KD] at this ⊢
    simp only [List.cons_append, enumT, List.map_cons, this, List.length_cons]
    congr 3
    simp; omega
theorem KD_len : ∀ (sps : List Sp) (k : Int), (KD sps k).length = sps.length
  | [], k => rfl
  | s :: r, k => by have := KD_len r (k + 1); simp only [KD, List.length_map] at this ⊢; simp [enumT, this]
theorem KD_keys : ∀ (sps : List Sp) (k : Int), (KD sps k).map (fun p => p.1) = sps.map (·.2.1)
  | [], k => rfl
  | s :: r, k => by have := KD_keys r (k + 1); simp only [KD] at this ⊢; simp [enumT, this]
theorem putT_new {α : Type} {m : List (Int × α)} {k : Int} {v : α} (h : k ∉ m.map (fun p => p.1)) : putT m k v = m ++ [(k, v)] := by
  unfold putT
  rw [if_neg]
  intro z
  simp only [List.any_eq_true, decide_eq_true_eq] at z
  obtain ⟨p, hp, rfl⟩ := z
  exact h (List.mem_map_of_mem hp)
theorem enumT_map {α β : Type} (f : α → β) : ∀ (k : Int) (xs : List α), enumT k (xs.map f) = (enumT k xs).map fun p => (p.1, f p.2)
  | _, [] => rfl
  | k, x :: r => by simp [enumT, enumT_map f (k + 1) r]
theorem foldQ_map {α β σ : Type} (g : β → α) (f : α → σ → Q σ) : ∀ (xs : List β) (s : σ), foldQ (xs.map g) s f = foldQ xs s fun x s => f (g x) s
  | [], s => rfl
  | x :: xs, s => by simp only [List.map_cons, foldQ]; congr 1; funext s'; exact foldQ_map g f xs s'
theorem enumT_get {α : Type} : ∀ (k : Int) (d : List (Int × α)) (x : Int × α) (r : List (Int × α)) (xs : List α), enumT k xs = d ++ x :: r → x.1 = k + d.length ∧ ∃ r', xs = d.map (·.2) ++ x.2 :: r'
  | k, [], x, r, [], h => by simp [enumT] at h
  | k, [], x, r, y :: ys, h => by simp [enumT] at h; obtain ⟨rfl, h⟩ := h; exact ⟨by simp, ys, rfl⟩
  | k, e :: d, x, r, [], h => by simp [enumT] at h
  | k, e :: d, x, r, y :: ys, h => by
    simp only [enumT, List.cons_append, List.cons.injEq] at h
    obtain ⟨rfl, h⟩ := h
    obtain ⟨h1, r', h2⟩ := enumT_get (k + 1) d x r ys h
    exact ⟨by simp; omega, r', by simp [h2]⟩
theorem goal_ok (sps : List Sp) (hn : (sps.map (·.2.1)).Nodup) (hl : sps.length < 16777216) : T_spans_by_goal_D (eV eSp sps) = .ok (KD sps 0) := by
  unfold T_spans_by_goal_D
  simp only [eV, itT, Q.of_some, Q.ok_bind, enumT_map, foldQ_map]
  obtain ⟨s', e, h⟩ := foldQ_pre (f := fun (x : Int × Sp) (s : List (Int × Int)) => (Q.of (ixD (eSp x.2) (eI 1))).bind fun v => (Q.of (keyI v)).bind fun k => (Q.of (roomT s.length)).bind fun _ => .ok (putT s k x.1)) (fun d s => s = KD (d.map (·.2)) 0) (xs := enumT 0 sps) (s := []) [] (fun d x r s e hi => by
    obtain ⟨h1, r', h2⟩ := enumT_get 0 d x r sps (by simpa using e)
    subst hi
    have hlen : d.length < 16777216 := by
      have := congrArg List.length h2; simp at this; omega
    refine ⟨_, ?_, rfl⟩
    have e1 : ixD (eSp x.2) (eI 1) = some (.int x.2.2.1) := rfl
    simp only [e1, Q.of_some, Q.ok_bind, keyI, roomT_ok (show (KD (d.map (·.2)) 0).length < 16777216 by rw [KD_len]; simpa using hlen)]
    rw [putT_new, List.map_append, List.map_singleton, KD_app, h1]
    · simp
    · rw [KD_keys]
      rw [h2, List.map_append, List.nodup_append] at hn
      intro z
      exact hn.2.2 _ z _ (by simp) rfl) rfl
  rw [show (KD sps 0) = s' by
    rw [h]
    have : ∀ (k : Int) (xs : List Sp), (enumT k xs).map (·.2) = xs := fun k xs => by
      induction xs generalizing k with
      | nil => rfl
      | cons x r ih => simp [enumT, ih]
    simp [this]]
  exact congrArg (fun q => Q.bind q _) e
theorem lenT_V {α : Type} (f : α → D) (xs : List α) : lenT (eV f xs) = some (xs.length : Int) := by simp [lenT]
theorem ixD_V {α : Type} (f : α → D) {xs : List α} {i : Nat} {x : α} (h : xs[i]? = some x) : ixD (eV f xs) (.int i) = some (f x) := by
  rw [o_ixV, atI_n, h]; rfl
theorem way_ok (sps : List Sp) (m : Int) (hl : sps.length < 900) : T_way_from_D (eV eSp sps) (KD sps 0) (.int m) = .ok ((way sps (sps.length + 1) m).map Int.ofNat) := by
  unfold T_way_from_D
  have loop : ∀ (n fuel : Nat) (m : Int) (is : List Nat), n < fuel → is.length + n = sps.length + 1 → ∃ m', whileS (fun (s : D × List Int) => (Q.of (inX (KD sps 0) s.1)).bind fun v => (if v = true then (Q.of (lenT (eD (eV eSp sps)))).bind fun v3 => .ok (decide ((s.2.length : Int) ≤ v3)) else .ok false)) (fun (s : D × List Int) => (Q.of (getX (KD sps 0) s.1)).bind fun v4 => (Q.of (roomT s.2.length)).bind fun _ => (Q.of (getX (KD sps 0) s.1)).bind fun v5 => (Q.of (ixD (eD (eV eSp sps)) (eI v5))).bind fun v6 => (Q.of (ixD (eD v6) (eI 0))).bind fun v7 => .ok (v7, (s.2 ++ [v4]))) fuel (.int m, is.map Int.ofNat) = .ok (m', (is ++ way sps n m).map Int.ofNat) := by
    intro n
    induction n with
    | zero =>
      intro fuel m is hf hi
      cases fuel with
      | zero => omega
      | succ fuel =>
        refine ⟨.int m, ?_⟩
        have e : ¬ ((is.length : Int) ≤ (sps.length : Int)) := by omega
        rw [while_f, way, List.append_nil]
        simp only [inX, keyI, Option.map, Q.of_some, Q.ok_bind, eD, lenT_V, List.length_map, e, decide_false]
        split <;> rfl
    | succ n ih =>
      intro fuel m is hf hi
      cases fuel with
      | zero => omega
      | succ fuel =>
        have e : ((is.length : Int) ≤ (sps.length : Int)) := by omega
        have kg : getT (KD sps 0) m = (fnd sps 0 m).map fun p => (p.1 : Int) := KD_get sps 0 m
        cases z : fnd sps 0 m with
        | none =>
          refine ⟨.int m, ?_⟩
          rw [z] at kg
          rw [while_f (by simp [inX, keyI, kg])]
          simp [way, z]
        | some p =>
          obtain ⟨i, s⟩ := p
          obtain ⟨_, h2, h3⟩ := fnd_at sps 0 i m s z
          obtain ⟨m', h⟩ := ih fuel s.1 (is ++ [i]) (by omega) (by simp; omega)
          refine ⟨m', ?_⟩
          rw [z] at kg
          simp only [Option.map] at kg
          have r1 : roomT (is.map Int.ofNat).length = some () := roomT_ok (by simp; omega)
          have r2 : ixD (eV eSp sps) (eI (i : Int)) = some (eSp s) := ixD_V eSp (by simpa using h2)
          have r3 : ixD (eSp s) (eI 0) = some (.int s.1) := rfl
          have hw : way sps (n + 1) m = i :: way sps n s.1 := by simp only [way, z]
          rw [while_t (s' := (.int s.1, (is ++ [i]).map Int.ofNat))]
          · rw [hw, h]; simp
          · simp only [inX, keyI, kg, Option.map, Q.of_some, Q.ok_bind, Option.isSome, if_true, eD, lenT_V, List.length_map, e, decide_true]
          · simp only [getX, keyI, kg, Option.bind, Q.of_some, Q.ok_bind, eD, r1, r2, r3, List.map_append]; rfl
  obtain ⟨m', h⟩ := loop (sps.length + 1) fuelW m [] (by unfold fuelW; omega) (by simp)
  simp only [List.map_nil, List.nil_append] at h
  exact (congrArg (fun q => Q.bind q _) h)
theorem are_spans_ok {e n : Int} (sps : List Sp) (hl : sps.length ≤ 4) (ho : ∀ s ∈ sps, SpOk e n s) (hn : (sps.map (·.2.1)).Nodup) (ha : Acyc sps) : T_are_spans (eV eSp sps) (.int e) (.int n) = .ok true := by
  unfold T_are_spans
  have hl' : ¬ (4 : Int) < (sps.length : Int) := by omega
  have c1 : compQ (γ := Bool) (sps.map eSp) () (fun x s => (T_is_span x (.int e) (.int n)).bind fun r => .ok (some r, ())) = .ok ((sps.map eSp).map (fun _ => true), ()) := compQ_fun _ fun x hx => by
    obtain ⟨s, hs, rfl⟩ := List.mem_map.mp hx
    rw [is_span_ok (ho s hs)]; rfl
  have a1 : (((sps.map eSp).map (fun _ => true)).all id) = true := by simp
  have a2 : (((List.map (fun p => p.1) (KD sps 0)).map (fun _ => true)).all id) = true := by simp
  have l1 : ((KD sps 0).length : Int) = (sps.length : Int) := by rw [KD_len]
  have g1 := goal_ok sps hn (by omega)
  simp only [show isiD "tuple" (eD (eV eSp sps)) = true from rfl, Bool.not_true, Bool.false_eq_true, if_false, eD, lenT_V, Q.of_some, Q.ok_bind, hl', decide_false, itT, c1, a1, g1, l1, decide_true, if_true]
  rw [compQ_fun (fun _ => true)]
  · simp
  · intro x hx
    rw [way_ok sps x (by omega)]
    have := (way_le (sps := sps) (sps.length + 1) x).1 (acyc_root ha x)
    have h : ((way sps (sps.length + 1) x).length : Int) ≤ (sps.length : Int) := by omega
    simp only [Q.ok_bind, eD, lenT_V, Q.of_some, List.length_map, h, decide_true]
theorem is_book_ok {b : Bk} (h : BkOk b) : T_is_book (eBk b) = .ok true := by
  obtain ⟨e, n, sps, bds⟩ := b
  have h1 : T_is_within (.int e) (.int 1) (.int 60) = .ok true := by have := h.e0; have := h.e1; rw [within_int]; simp at *; omega
  have h2 : T_is_within (.int n) (.int 1) (.int 10) = .ok true := by have := h.n0; have := h.n1; rw [within_int]; simp at *; omega
  have h3 := are_spans_ok (e := e) (n := n) sps h.sl h.so h.nd h.ac
  have hl' : ¬ (30 : Int) < (bds.length : Int) := by have := h.bl; simp at this; omega
  have c1 : compQ (γ := Bool) (bds.map eBd) () (fun x s => (T_is_bound x (.int n)).bind fun r => .ok (some r, ())) = .ok ((bds.map eBd).map (fun _ => true), ()) := compQ_fun _ fun x hx => by
    obtain ⟨s, hs, rfl⟩ := List.mem_map.mp hx
    rw [is_bound_ok (h.bo s hs)]; rfl
  have a1 : (((bds.map eBd).map (fun _ => true)).all id) = true := by simp
  unfold T_is_book
  have i1 : isiD "tuple" (eD (eBk (e, n, sps, bds))) = true := rfl
  have i2 : lenT (eD (eBk (e, n, sps, bds))) = some 4 := rfl
  have i3 : un4 (eBk (e, n, sps, bds)) = some (.int e, .int n, eV eSp sps, eV eBd bds) := rfl
  have i4 : isiD "tuple" (eD (eV eBd bds)) = true := rfl
  simp only [i1, i2, i3, i4, Bool.not_true, Bool.false_eq_true, if_false, Q.of_some, Q.ok_bind, decide_true, h1, h2, h3, eD, lenT_V, hl', decide_false, itT, c1, a1]
end Law
namespace Law
open PySem L2 DL
theorem check_book_ok {b : Bk} (h : BkOk b) : T_check_book (eBk b) = .ok () := by
  unfold T_check_book
  rw [is_book_ok h]; rfl
end Law
namespace Law
open PySem L2 DL
noncomputable def Pool (l : List Int) : Prop := ∃ p, l = [p]
theorem take_ok {l : List Int} {m : Int} (h : Pool l) (h0 : 0 < m) (h1 : m < 1073741824) : ∃ d l', T_law_take l m = .ok (d, l') ∧ Pool l' ∧ 0 ≤ d ∧ d < m := by
  obtain ⟨p, rfl⟩ := h
  refine ⟨p % m, [p / m], ?_, ⟨_, rfl⟩, Int.emod_nonneg _ (by omega), Int.emod_lt_of_pos _ h0⟩
  have e1 : atI [p] 0 = some p := rfl
  have e2 : divmodT p m = some (p / m, p % m) := by unfold divmodT; rw [if_pos ⟨h0, h1⟩]
  have e3 : setT [p] 0 (p / m) = some [p / m] := rfl
  unfold T_law_take
  simp only [e1, e2, e3, Q.of_some, Q.ok_bind]
theorem take_post {l : List Int} {m : Int} (h : Pool l) (h0 : 0 < m) (h1 : m < 1073741824) : (T_law_take l m).Post fun r => Pool r.2 ∧ 0 ≤ r.1 ∧ r.1 < m := by
  obtain ⟨d, l', e, h1, h2, h3⟩ := take_ok h h0 h1
  exact ⟨(d, l'), e, h1, h2, h3⟩
theorem modT_ok {i j : Int} (h : 0 < j) : modT i j = some (i % j) := by unfold modT; rw [if_pos h]
theorem mulT_l {i j : Int} (h : -18446744073709551616 < i) (h2 : i < 18446744073709551616) : mulT i j = some (i * j) := by
  unfold mulT; rw [if_pos]; simp [small_of h h2]
theorem mulT_r {i j : Int} (h : -18446744073709551616 < j) (h2 : j < 18446744073709551616) : mulT i j = some (i * j) := by
  unfold mulT; rw [if_pos]; simp [small_of h h2]
theorem pool_ok (ns : List Int) {k : Int} (h0 : 0 ≤ k) (h1 : k ≤ 1000000) : (T_law_pool ns k).Post Pool := by
  unfold T_law_pool
  rw [Q.ok_bind]
  refine .ite (fun _ => ?_) fun _ => ?_
  · rw [modT_ok P384_pos, Q.of_some, Q.ok_bind]
    exact .ok ⟨_, rfl⟩
  · rw [mulT_r (by omega) (by omega), Q.of_some, Q.ok_bind, rgT0 (by omega) (by omega), Q.of_some, Q.ok_bind]
    refine foldQ_post (fun _ _ => True) trivial (fun x hx n s _ _ => ?_) fun s _ => .ok ⟨_, rfl⟩
    rw [Q.ok_bind]
    generalize hz : (((s.1 % 999999999989 * 69621 + 40503 * x + 271) % 999999999989) : Int) = z
    have b1 : 0 ≤ z := by rw [← hz]; exact Int.emod_nonneg _ (by decide)
    have b2 : z < 999999999989 := by rw [← hz]; exact Int.emod_lt_of_pos _ (by decide)
    rw [mulT_r (by decide) (by decide), Q.of_some, Q.ok_bind, mulT_l (by omega) (by omega), Q.of_some, Q.ok_bind]
    exact .ok trivial
end Law
namespace Law
open PySem L2 DL
noncomputable def Hg (sps : List Sp) : List (Int × Int) := sps.map fun s => (s.2.1, s.1)
theorem Hg_get : ∀ (sps : List Sp) (k : Nat) (m : Int), getT (Hg sps) m = (fnd sps k m).map fun p => p.2.1
  | [], k, m => rfl
  | s :: r, k, m => by
    have ih := Hg_get r (k + 1) m
    show getT ((s.2.1, s.1) :: Hg r) m = _
    rw [getT_cons, fnd]
    by_cases z : s.2.1 = m
    · simp [z]
    · simp only [if_neg z]; exact ih
theorem Hg_keys (sps : List Sp) : (Hg sps).map (fun p => p.1) = sps.map (·.2.1) := by simp [Hg]
theorem root_loop (sps : List Sp) : ∀ (k fuel : Nat) (m x : Int), rootM sps k m = some x → k ≤ fuel → whileS (fun (s : Int) => .ok (Option.isSome (getT (Hg sps) s))) (fun (s : Int) => (Q.of (getT (Hg sps) s)).bind fun v => .ok v) fuel m = .ok x
  | 0, _, _, _, h, _ => by simp [rootM] at h
  | k + 1, 0, _, _, _, h => by omega
  | k + 1, fuel + 1, m, x, h, hf => by
    unfold rootM at h
    have kg := Hg_get sps 0 m
    cases z : fnd sps 0 m with
    | none =>
      rw [z] at kg h
      simp at h
      rw [while_f (by rw [kg]; rfl), h]
    | some p =>
      rw [z] at kg h
      rw [while_t (s' := p.2.1) (by rw [kg]; rfl) (by rw [kg]; rfl)]
      exact root_loop sps k fuel _ x h (by omega)
theorem acyc_fuel {sps : List Sp} (h : Acyc sps) (hl : sps.length < 900) (m : Int) : ∃ x, rootM sps (sps.length + 1) m = some x ∧ whileS (fun (s : Int) => .ok (Option.isSome (getT (Hg sps) s))) (fun (s : Int) => (Q.of (getT (Hg sps) s)).bind fun v => .ok v) fuelW m = .ok x := by
  have := acyc_root h m
  cases e : rootM sps (sps.length + 1) m with
  | none => rw [e] at this; cases this
  | some x => exact ⟨x, rfl, root_loop sps _ fuelW m x e (by unfold fuelW; omega)⟩
structure SpsOk (e n : Int) (sps : List Sp) : Prop where
  so : ∀ s ∈ sps, SpOk e n s
  nd : (sps.map (·.2.1)).Nodup
  ac : Acyc sps
theorem SpsOk.nil {e n : Int} : SpsOk e n [] := ⟨fun s h => by simp at h, by simp, acyc_nil⟩
theorem SpsOk.add {e n : Int} {sps : List Sp} {s : Sp} {x : Int} (h : SpsOk e n sps) (hs : SpOk e n s) (hf : fnd sps 0 s.2.1 = none) (hx : rootM sps (sps.length + 1) s.1 = some x) (hne : x ≠ s.2.1) : SpsOk e n (sps ++ [s]) := by
  refine ⟨fun t ht => ?_, ?_, acyc_add h.ac hx hne⟩
  · rcases List.mem_append.mp ht with ht | ht
    · exact h.so t ht
    · simp at ht; subst ht; exact hs
  · rw [List.map_append, List.nodup_append]
    refine ⟨h.nd, by simp, fun a ha b hb => ?_⟩
    simp at hb
    subst hb
    intro e
    subst e
    exact (fnd_none sps 0 _).1 hf ha
theorem at2 {a b i : Int} (h0 : 0 ≤ i) (h1 : i < 2) : ∃ x, atI [a, b] i = some x ∧ (x = a ∨ x = b) := by
  have : i = 0 ∨ i = 1 := by omega
  rcases this with rfl | rfl
  · exact ⟨a, rfl, .inl rfl⟩
  · exact ⟨b, rfl, .inr rfl⟩
theorem at3 {a b c i : Int} (h0 : 0 ≤ i) (h1 : i < 3) : ∃ x, atI [a, b, c] i = some x ∧ (x = a ∨ x = b ∨ x = c) := by
  have : i = 0 ∨ i = 1 ∨ i = 2 := by omega
  rcases this with rfl | rfl | rfl
  · exact ⟨a, rfl, .inl rfl⟩
  · exact ⟨b, rfl, .inr (.inl rfl)⟩
  · exact ⟨c, rfl, .inr (.inr rfl)⟩
theorem at4 {a b c d i : Int} (h0 : 0 ≤ i) (h1 : i < 4) : ∃ x, atI [a, b, c, d] i = some x ∧ (x = a ∨ x = b ∨ x = c ∨ x = d) := by
  have : i = 0 ∨ i = 1 ∨ i = 2 ∨ i = 3 := by omega
  rcases this with rfl | rfl | rfl | rfl
  · exact ⟨a, rfl, .inl rfl⟩
  · exact ⟨b, rfl, .inr (.inl rfl)⟩
  · exact ⟨c, rfl, .inr (.inr (.inl rfl))⟩
  · exact ⟨d, rfl, .inr (.inr (.inr rfl))⟩
end Law
namespace Law
open PySem L2 DL
theorem at6 {a b c d e f i : Int} (h0 : 0 ≤ i) (h1 : i < 6) : ∃ x, atI [a, b, c, d, e, f] i = some x := by
  have : i = 0 ∨ i = 1 ∨ i = 2 ∨ i = 3 ∨ i = 4 ∨ i = 5 := by omega
  rcases this with rfl | rfl | rfl | rfl | rfl | rfl <;> exact ⟨_, rfl⟩
theorem spans_ok {l : List Int} {n e most : Int} (hp : Pool l) (hn : 1 ≤ n) (hn1 : n ≤ 10) (he : 1 ≤ e) (he1 : e ≤ 60) (hm : 0 ≤ most) (hm1 : most ≤ 100) : (T_law_spans l n e most).Post fun r => Pool r.2 ∧ SpsOk e n r.1 ∧ (r.1.length : Int) ≤ most := by
  unfold T_law_spans
  refine (take_post hp (by omega) (by omega)).noX.bind fun r ⟨p1, d0, d1⟩ => ?_
  rw [rgT0 (by omega) (by omega), Q.of_some, Q.ok_bind]
  refine foldQ_post (fun k (s : List Int × List Sp × List (Int × Int)) => Pool s.1 ∧ s.2.2 = Hg s.2.1 ∧ SpsOk e n s.2.1 ∧ s.2.1.length ≤ k) ⟨p1, rfl, SpsOk.nil, by simp⟩ ?_ ?_
  · intro x hx k ⟨l, sps, hg⟩ hk ⟨p0, hh, so, sl⟩
    simp only at hh so sl p0
    subst hh
    rw [irange_len] at hk
    refine (take_post p0 (by omega) (by omega)).noX.bind fun ⟨a, l1⟩ ⟨p1, a0, a1⟩ => ?_
    refine (take_post p1 (by omega) (by omega)).noX.bind fun ⟨c, l2⟩ ⟨p2, c0, c1⟩ => ?_
    refine (take_post p2 (by omega) (by omega)).noX.bind fun ⟨t, l3⟩ ⟨p3, t0, t1⟩ => ?_
    simp only at a0 a1 c0 c1 t0 t1 ⊢
    obtain ⟨v, e4, hv⟩ := at2 (a := min 3 e) (b := e) t0 t1
    rw [e4, Q.of_some, Q.ok_bind]
    refine (take_post p3 (by omega) (by omega)).noX.bind fun ⟨u, l4⟩ ⟨p4, u0, u1⟩ => ?_
    refine (take_post p4 (by omega) (by omega)).noX.bind fun ⟨w, l5⟩ ⟨p5, w0, w1⟩ => ?_
    simp only at u0 u1 w0 w1 ⊢
    obtain ⟨y, e7, hy⟩ := at3 (a := 1) (b := 4) (c := e) w0 w1
    rw [e7, Q.of_some, Q.ok_bind]
    refine (take_post p5 (by omega) (by omega)).noX.bind fun ⟨z, l6⟩ ⟨p6, z0, z1⟩ => ?_
    simp only at z0 z1 ⊢
    obtain ⟨x, hx, e9⟩ := acyc_fuel so.ac (by omega) a
    rw [e9, Q.ok_bind]
    have kg := Hg_get sps 0 c
    refine .ite (fun hc => ?_) (fun _ => .ok ⟨p6, rfl, so, by simp; omega⟩)
    simp only [Bool.and_eq_true, decide_eq_true_eq, Bool.not_eq_true', decide_eq_false_iff_not] at hc
    obtain ⟨h1, h2, h3, h4⟩ := hc
    have hf : fnd sps 0 c = none := by
      cases q : fnd sps 0 c with
      | none => rfl
      | some p => rw [q] at kg; rw [kg] at h3; simp at h3
    have hl : (Hg sps).length = sps.length := by simp [Hg]
    rw [roomT_ok (by omega), roomT_ok (by omega)]
    refine .ok ⟨p6, ?_, so.add (s := (a, c, 1 + u, min e (1 + u + z))) ⟨?_, ?_, ?_, ?_, ?_, ?_, ?_, ?_⟩ hf hx h4, by simp; omega⟩
    · show putT (Hg sps) c a = _
      rw [putT_new, Hg, Hg, List.map_append]; rfl
      rw [Hg_keys]; exact (fnd_none sps 0 c).1 hf
    all_goals simp
    all_goals omega
  · intro ⟨l', sps, hg⟩ ⟨q1, q2, q3, q4⟩
    rw [irange_len] at q4
    exact .ok ⟨q1, q3, by simp at q4 ⊢; omega⟩
theorem bounds_ok {l : List Int} {n e most : Int} (hp : Pool l) (hn : 1 ≤ n) (hn1 : n ≤ 10) (he : 1 ≤ e) (he1 : e ≤ 60) (hm : 0 ≤ most) (hm1 : most ≤ 100) : (T_law_bounds l n e most).Post fun r => Pool r.2 ∧ (∀ b ∈ r.1, BdOk n b) ∧ (r.1.length : Int) ≤ most := by
  unfold T_law_bounds
  refine (take_post hp (by omega) (by omega)).noX.bind fun r ⟨p1, d0, d1⟩ => ?_
  rw [rgT0 (by omega) (by omega), Q.of_some, Q.ok_bind]
  refine foldQ_post (fun k (s : List Int × List Bd) => Pool s.1 ∧ (∀ b ∈ s.2, BdOk n b) ∧ s.2.length ≤ k) ⟨p1, fun b h => by simp at h, by simp⟩ ?_ ?_
  · intro x hx k ⟨l, bds⟩ hk ⟨p0, so, sl⟩
    simp only at p0 so sl
    rw [irange_len] at hk
    refine (take_post p0 (by omega) (by omega)).noX.bind fun ⟨a, l1⟩ ⟨p1, a0, a1⟩ => ?_
    refine (take_post p1 (by omega) (by omega)).noX.bind fun ⟨c, l2⟩ ⟨p2, c0, c1⟩ => ?_
    refine (take_post p2 (by omega) (by omega)).noX.bind fun ⟨t, l3⟩ ⟨p3, t0, t1⟩ => ?_
    refine (take_post p3 (by omega) (by omega)).noX.bind fun ⟨u, l4⟩ ⟨p4, u0, u1⟩ => ?_
    refine (take_post p4 (by omega) (by omega)).noX.bind fun ⟨j, l5⟩ ⟨p5, j0, j1⟩ => ?_
    simp only at a0 a1 c0 c1 t0 t1 u0 u1 j0 j1 ⊢
    obtain ⟨y, e6, hy⟩ := at4 (a := t) (b := 0 - t) (c := u) (d := 0 - u) j0 j1
    rw [e6, Q.of_some, Q.ok_bind]
    refine .ite (fun hc => ?_) (fun _ => .ok ⟨p5, so, by simp; omega⟩)
    simp only [Bool.not_eq_true', decide_eq_false_iff_not] at hc
    rw [roomT_ok (by omega)]
    refine .ok ⟨p5, fun b hb => ?_, by simp; omega⟩
    rcases List.mem_append.mp hb with hb | hb
    · exact so b hb
    · simp at hb; subst hb
      exact ⟨by simp; omega, by simp; omega, by simp; omega, by simp; omega, hc, by simp; omega, by simp; omega⟩
  · intro ⟨l', bds⟩ ⟨q1, q3, q4⟩
    rw [irange_len] at q4
    exact .ok ⟨q1, q3, by simp at q4 ⊢; omega⟩
theorem near_ok {l : List Int} {n e most : Int} {sps : List Sp} (hp : Pool l) (hn : 1 ≤ n) (hn1 : n ≤ 10) (he : 1 ≤ e) (he1 : e ≤ 60) (hs : ∀ s ∈ sps, SpOk e n s) (hl : sps.length ≤ 100) (hm : 0 ≤ most) (hm1 : most ≤ 100) : (T_law_near_bounds l (e, n, sps, ()) most).Post fun r => Pool r.2 ∧ (∀ b ∈ r.1, BdOk n b) ∧ (r.1.length : Int) ≤ most := by
  unfold T_law_near_bounds
  dsimp only
  rw [rgT0 (by omega) (by omega), Q.of_some, Q.ok_bind]
  refine compQ_post Pool (fun _ _ => True) hp (fun x hx s p0 => ?_) fun hs1 l1 p1 hl1 _ => ?_
  · refine (take_post p0 (by omega) (by omega)).noX.bind fun ⟨a, l1⟩ ⟨p1, a0, a1⟩ => .ok ⟨_, rfl, p1, trivial⟩
  rw [irange_len] at hl1
  dsimp only
  rw [setT_ok (by omega) (by omega), Q.of_some, Q.ok_bind]
  refine compQ_post Pool (fun _ _ => True) p1 (fun x hx s p0 => ?_) fun ls l2 p2 hl2 _ => ?_
  · have hh := hs x hx
    have := hh.l0; have := hh.lm; have := hh.me
    refine (take_post p0 (by omega) (by omega)).noX.bind fun ⟨a, l1⟩ ⟨p1, a0, a1⟩ => .ok ⟨_, rfl, p1, trivial⟩
  dsimp only
  rw [rgT0 (by omega) (by omega), Q.of_some, Q.ok_bind]
  refine foldQ_post (fun _ (h : List Int) => (h.length : Int) = n) (by rw [List.length_set]; omega) (fun x hx k h hk hlen => ?_) fun h hlen => ?_
  · refine foldQ_post (fun _ (h : List Int) => (h.length : Int) = n) hlen (fun x hx k h hk hlen => ?_) fun h hlen => .ok hlen
    have hh := hs x.1 (List.of_mem_zip hx).1
    have := hh.a0; have := hh.a1; have := hh.g0; have := hh.g1
    rw [atI_ok (by omega) (by omega), Q.of_some, Q.ok_bind, setT_ok (by omega) (by omega), Q.of_some, Q.ok_bind]
    exact .ok (by rw [List.length_set]; exact hlen)
  refine (take_post p2 (by omega) (by omega)).noX.bind fun ⟨d, l3⟩ ⟨p3, d0, d1⟩ => ?_
  simp only at d0 d1 ⊢
  rw [rgT0 (by omega) (by omega), Q.of_some, Q.ok_bind]
  refine foldQ_post (fun k (s : List Int × List Bd) => Pool s.1 ∧ (∀ b ∈ s.2, BdOk n b) ∧ s.2.length ≤ k) ⟨p3, fun b h => by simp at h, by simp⟩ ?_ ?_
  · intro x hx k ⟨l, bds⟩ hk ⟨p0, so, sl⟩
    simp only at p0 so sl
    rw [irange_len] at hk
    refine (take_post p0 (by omega) (by omega)).noX.bind fun ⟨a, l1⟩ ⟨p1, a0, a1⟩ => ?_
    refine (take_post p1 (by omega) (by omega)).noX.bind fun ⟨c, l2⟩ ⟨p2, c0, c1⟩ => ?_
    simp only at a0 a1 c0 c1 ⊢
    rw [atI_ok c0 (by omega), Q.of_some, Q.ok_bind, atI_ok a0 (by omega), Q.of_some, Q.ok_bind]
    refine (take_post p2 (by omega) (by omega)).noX.bind fun ⟨t, l3⟩ ⟨p3, t0, t1⟩ => ?_
    simp only at t0 t1 ⊢
    obtain ⟨y, e6⟩ := at6 (a := 0) (b := 0) (c := 1) (d := 2) (e := 3) (f := 0 - 1) t0 t1
    rw [e6, Q.of_some, Q.ok_bind]
    generalize h[c.toNat]'(by omega) - h[a.toNat]'(by omega) + y = w
    refine .ite (fun hc => ?_) (fun _ => .ok ⟨p3, so, by simp; omega⟩)
    simp only [Bool.and_eq_true, decide_eq_true_eq, Bool.not_eq_true', decide_eq_false_iff_not] at hc
    rw [roomT_ok (by omega)]
    refine .ok ⟨p3, fun b hb => ?_, by simp; omega⟩
    rcases List.mem_append.mp hb with hb | hb
    · exact so b hb
    · simp at hb; subst hb
      exact ⟨by simp; omega, by simp; omega, by simp; omega, by simp; omega, hc.1, by simp; omega, by simp; omega⟩
  · intro ⟨l', bds⟩ ⟨q1, q3, q4⟩
    rw [irange_len] at q4
    exact .ok ⟨q1, q3, by simp at q4 ⊢; omega⟩
theorem book_ok {l : List Int} {ms ss bs es : Int} (hp : Pool l) (h1 : 1 ≤ ms) (h2 : ms ≤ 10) (h3 : 0 ≤ ss) (h4 : ss ≤ 4) (h5 : 0 ≤ bs) (h6 : bs ≤ 30) (h7 : 1 ≤ es) (h8 : es ≤ 60) : (T_law_book l ms ss bs es).Post fun r => Pool r.2 ∧ BkOk r.1 ∧ r.1.2.1 ≤ ms ∧ (r.1.2.2.2.length : Int) ≤ bs ∧ r.1.1 ≤ es := by
  unfold T_law_book
  refine (take_post hp (by omega) (by omega)).noX.bind fun ⟨d, l0⟩ ⟨p0, d0, d1⟩ => ?_
  refine (take_post p0 (by omega) (by omega)).noX.bind fun ⟨e, l1⟩ ⟨p1, e0, e1⟩ => ?_
  refine (take_post p1 (by omega) (by omega)).noX.bind fun ⟨n, l2⟩ ⟨p2, n0, n1⟩ => ?_
  simp only at d0 d1 n0 n1 e0 e1 ⊢
  refine (spans_ok p2 (by omega) (by omega) (by omega) (by omega) (by omega) (by omega)).noX.bind fun ⟨sps, l3⟩ ⟨p3, so, sl⟩ => ?_
  rw [Q.ok_bind]
  simp only at sl so ⊢
  refine .ite (fun _ => ?_) fun _ => ?_
  · refine (bounds_ok p3 (by omega) (by omega) (by omega) (by omega) (by omega) (by omega)).noX.bind fun ⟨bds, l4⟩ ⟨p4, bo, bl⟩ => ?_
    simp only at bl
    exact .ok ⟨p4, ⟨by simp; omega, by simp; omega, by simp; omega, by simp; omega, by simp; omega, so.so, so.nd, so.ac, by simp; omega, bo⟩, by simp; omega, bl, by simp; omega⟩
  · refine (near_ok p3 (by omega) (by omega) (by omega) (by omega) so.so (by omega) (by omega) (by omega)).noX.bind fun ⟨bds, l4⟩ ⟨p4, bo, bl⟩ => ?_
    simp only at bl
    exact .ok ⟨p4, ⟨by simp; omega, by simp; omega, by simp; omega, by simp; omega, by simp; omega, so.so, so.nd, so.ac, by simp; omega, bo⟩, by simp; omega, bl, by simp; omega⟩
end Law
namespace Law
open PySem L2 DL
noncomputable def inR (lo hi : Int) : D → Bool
  | .int i => decide (lo ≤ i) && decide (i ≤ hi)
  | _ => false
theorem within_D (x : D) (lo hi : Int) : T_is_within x (eI lo) (eI hi) = .ok (inR lo hi x) := by
  cases x with
  | int i => exact within_int i lo hi
  | _ => unfold T_is_within T_is_whole; rfl
end Law
namespace Law
open PySem L2 DL
noncomputable def Tells (q : Q Bool) (P : Prop) : Prop := ∃ k : Bool, q = .ok k ∧ (k = true ↔ P)
theorem Tells.no {q : Q Bool} {P : Prop} (h : q = .ok false) (hp : ¬ P) : Tells q P := ⟨false, h, by simp [hp]⟩
theorem Tells.of {q : Q Bool} {k : Bool} {P : Prop} (h : q = .ok k) (hp : k = true ↔ P) : Tells q P := ⟨k, h, hp⟩
theorem inR_iff {lo hi : Int} {d : D} : inR lo hi d = true ↔ ∃ i, d = .int i ∧ lo ≤ i ∧ i ≤ hi := by
  cases d with
  | int i => simp [inR]
  | _ => simp [inR]
theorem tup_inj {xs ys : List D} (h : PyData.tuple xs = PyData.tuple ys) : xs = ys := by injection h
theorem int_inj {a b : Int} (h : PyData.int a = PyData.int b) : a = b := by injection h
theorem len4 {ds : List D} (h : ds.length = 4) : ∃ x y z w, ds = [x, y, z, w] := by
  match ds, h with
  | [x, y, z, w], _ => exact ⟨x, y, z, w, rfl⟩
theorem len3 {ds : List D} (h : ds.length = 3) : ∃ x y z, ds = [x, y, z] := by
  match ds, h with
  | [x, y, z], _ => exact ⟨x, y, z, rfl⟩
noncomputable def IsSp (e n : Int) (d : D) : Prop := ∃ s : Sp, d = eSp s ∧ SpOk e n s
noncomputable def IsBd (n : Int) (d : D) : Prop := ∃ s : Bd, d = eBd s ∧ BdOk n s
theorem isSp_tup {e n : Int} {x y z w : D} (h : IsSp e n (.tuple [x, y, z, w])) : ∃ s : Sp, x = .int s.1 ∧ y = .int s.2.1 ∧ z = .int s.2.2.1 ∧ w = .int s.2.2.2 ∧ SpOk e n s := by
  obtain ⟨s, h, ok⟩ := h
  have h := tup_inj h
  injection h with h1 h; injection h with h2 h; injection h with h3 h; injection h with h4 h
  exact ⟨s, h1, h2, h3, h4, ok⟩
theorem isBd_tup {n : Int} {x y z : D} (h : IsBd n (.tuple [x, y, z])) : ∃ s : Bd, x = .int s.1 ∧ y = .int s.2.1 ∧ z = .int s.2.2 ∧ BdOk n s := by
  obtain ⟨s, h, ok⟩ := h
  have h := tup_inj h
  injection h with h1 h; injection h with h2 h; injection h with h3 h
  exact ⟨s, h1, h2, h3, ok⟩
theorem span_D (e n : Int) (d : D) : Tells (T_is_span d (.int e) (.int n)) (IsSp e n d) := by
  cases d with
  | tuple ds =>
    by_cases hl : ds.length = 4
    · obtain ⟨x, y, z, w, rfl⟩ := len4 hl
      have e0 : isiD "tuple" (eD (PyData.tuple [x, y, z, w])) = true := rfl
      have e1 : lenT (eD (PyData.tuple [x, y, z, w])) = some 4 := rfl
      have e2 : un4 (PyData.tuple [x, y, z, w]) = some (x, y, z, w) := rfl
      have e3 : subD (eD (PyData.int n)) (eI 1) = some (eI (n - 1)) := rfl
      unfold T_is_span
      simp only [e0, e1, e2, e3, Bool.not_true, Bool.false_eq_true, if_false, Q.of_some, Q.ok_bind, decide_true, within_D, Q.ok_noX]
      cases c1 : inR 0 (n - 1) x with
      | false =>
        refine .no (by simp) fun h => ?_
        obtain ⟨s, rfl, _, _, _, ok⟩ := isSp_tup h
        have := inR_iff.mpr ⟨s.1, rfl, ok.a0, ok.a1⟩; rw [c1] at this; cases this
      | true =>
        cases c2 : inR 1 (n - 1) y with
        | false =>
          refine .no (by simp) fun h => ?_
          obtain ⟨s, _, rfl, _, _, ok⟩ := isSp_tup h
          have := inR_iff.mpr ⟨s.2.1, rfl, ok.g0, ok.g1⟩; rw [c2] at this; cases this
        | true =>
          obtain ⟨a, rfl, a0, a1⟩ := inR_iff.mp c1
          obtain ⟨c, rfl, g0, g1⟩ := inR_iff.mp c2
          have e4 : eqB (eD (PyData.int a)) (eD (PyData.int c)) = some (a == c) := eqB_int _ _
          simp only [e4, Bool.not_true, Bool.false_eq_true, if_false, Q.of_some, Q.ok_bind]
          by_cases hac : a = c
          · exact .no (by simp [hac]) fun h => by
              obtain ⟨s, h1, h2, _, _, ok⟩ := isSp_tup h
              exact ok.ne (by rw [← int_inj h1, ← int_inj h2, hac])
          · have : (a == c) = false := by simpa using hac
            simp only [this, Bool.false_eq_true, if_false]
            cases c3 : inR 1 e w with
            | false =>
              refine .no (by simp) fun h => ?_
              obtain ⟨s, _, _, _, rfl, ok⟩ := isSp_tup h
              have : inR 1 e (.int s.2.2.2) = true := inR_iff.mpr ⟨s.2.2.2, rfl, by have := ok.l0; have := ok.lm; omega, ok.me⟩; rw [c3] at this; cases this
            | true =>
              obtain ⟨m, rfl, m0, m1⟩ := inR_iff.mp c3
              simp only [if_true, Q.ok_bind]
              rw [show PyData.int m = eI m from rfl, within_D]
              simp only [Q.ok_bind]
              refine .of rfl ?_
              constructor
              · intro c4
                obtain ⟨l, rfl, l0, l1⟩ := inR_iff.mp c4
                exact ⟨(a, c, l, m), rfl, ⟨a0, a1, g0, g1, hac, l0, l1, m1⟩⟩
              · intro h
                obtain ⟨s, _, _, rfl, h4, ok⟩ := isSp_tup h
                have := int_inj h4
                exact inR_iff.mpr ⟨_, rfl, ok.l0, by rw [this]; exact ok.lm⟩
    · have e0 : isiD "tuple" (eD (PyData.tuple ds)) = true := rfl
      have e1 : lenT (eD (PyData.tuple ds)) = some (ds.length : Int) := rfl
      refine .no ?_ fun ⟨s, h, _⟩ => hl (by rw [tup_inj h]; rfl)
      have : decide ((ds.length : Int) = 4) = false := decide_eq_false (by omega)
      unfold T_is_span
      simp only [e0, e1, this, Bool.not_true, Bool.not_false, Bool.false_eq_true, if_false, if_true, Q.of_some, Q.ok_bind]
  | _ => exact .no (by unfold T_is_span; rfl) fun ⟨s, h, _⟩ => by cases h
theorem bound_D (n : Int) (d : D) : Tells (T_is_bound d (.int n)) (IsBd n d) := by
  cases d with
  | tuple ds =>
    by_cases hl : ds.length = 3
    · obtain ⟨x, y, z, rfl⟩ := len3 hl
      have e0 : isiD "tuple" (eD (PyData.tuple [x, y, z])) = true := rfl
      have e1 : lenT (eD (PyData.tuple [x, y, z])) = some 3 := rfl
      have e2 : un3 (PyData.tuple [x, y, z]) = some (x, y, z) := rfl
      have e3 : subD (eD (PyData.int n)) (eI 1) = some (eI (n - 1)) := rfl
      unfold T_is_bound
      simp only [e0, e1, e2, e3, Bool.not_true, Bool.false_eq_true, if_false, Q.of_some, Q.ok_bind, decide_true, within_D, Q.ok_noX]
      cases c1 : inR 0 (n - 1) x with
      | false =>
        refine .no (by simp) fun h => ?_
        obtain ⟨s, rfl, _, _, ok⟩ := isBd_tup h
        have := inR_iff.mpr ⟨s.1, rfl, ok.a0, ok.a1⟩; rw [c1] at this; cases this
      | true =>
        cases c2 : inR 0 (n - 1) y with
        | false =>
          refine .no (by simp) fun h => ?_
          obtain ⟨s, _, rfl, _, ok⟩ := isBd_tup h
          have := inR_iff.mpr ⟨s.2.1, rfl, ok.b0, ok.b1⟩; rw [c2] at this; cases this
        | true =>
          obtain ⟨a, rfl, a0, a1⟩ := inR_iff.mp c1
          obtain ⟨c, rfl, g0, g1⟩ := inR_iff.mp c2
          have e4 : eqB (eD (PyData.int a)) (eD (PyData.int c)) = some (a == c) := eqB_int _ _
          simp only [e4, Bool.not_true, Bool.false_eq_true, if_false, Q.of_some, Q.ok_bind]
          by_cases hac : a = c
          · exact .no (by simp [hac]) fun h => by
              obtain ⟨s, h1, h2, _, ok⟩ := isBd_tup h
              exact ok.ne (by rw [← int_inj h1, ← int_inj h2, hac])
          · have : (a == c) = false := by simpa using hac
            simp only [this, Bool.false_eq_true, if_false]
            refine .of rfl ?_
            constructor
            · intro c4
              obtain ⟨l, rfl, l0, l1⟩ := inR_iff.mp c4
              exact ⟨(a, c, l), rfl, ⟨a0, a1, g0, g1, hac, l0, l1⟩⟩
            · intro h
              obtain ⟨s, _, _, rfl, ok⟩ := isBd_tup h
              exact inR_iff.mpr ⟨_, rfl, ok.w0, ok.w1⟩
    · have e0 : isiD "tuple" (eD (PyData.tuple ds)) = true := rfl
      have e1 : lenT (eD (PyData.tuple ds)) = some (ds.length : Int) := rfl
      refine .no ?_ fun ⟨s, h, _⟩ => hl (by rw [tup_inj h]; rfl)
      have : decide ((ds.length : Int) = 3) = false := decide_eq_false (by omega)
      unfold T_is_bound
      simp only [e0, e1, this, Bool.not_true, Bool.not_false, Bool.false_eq_true, if_false, if_true, Q.of_some, Q.ok_bind]
  | _ => exact .no (by unfold T_is_bound; rfl) fun ⟨s, h, _⟩ => by cases h
theorem all_tells {f : D → Q Bool} {P : D → Prop} (h : ∀ d, Tells (f d) (P d)) (ds : List D) : Tells ((compQ (γ := Bool) ds (() : Unit) (fun x s => (f x).bind fun r => .ok (some r, ()))).bind fun c => .ok (List.all c.1 id)) (∀ d ∈ ds, P d) := by
  obtain ⟨g, hg⟩ := Classical.axiomOfChoice (r := fun d (k : Bool) => f d = .ok k ∧ (k = true ↔ P d)) h
  rw [compQ_fun g (fun x _ => by rw [(hg x).1]; rfl), Q.ok_bind]
  refine .of rfl ?_
  rw [List.all_map, List.all_eq_true]
  exact forall_congr' fun d => forall_congr' fun _ => (hg d).2
theorem each_of {α : Type} {P : α → Prop} {e : α → D} : ∀ {ds : List D}, (∀ d ∈ ds, ∃ s, d = e s ∧ P s) → ∃ ss : List α, ds = ss.map e ∧ ∀ s ∈ ss, P s
  | [], _ => ⟨[], rfl, fun s h => by simp at h⟩
  | d :: r, h => by
    obtain ⟨s, rfl, hs⟩ := h d List.mem_cons_self
    obtain ⟨ss, rfl, hss⟩ := each_of fun d hd => h d (List.mem_cons_of_mem _ hd)
    exact ⟨s :: ss, rfl, fun t ht => by
      rcases List.mem_cons.mp ht with rfl | ht
      · exact hs
      · exact hss t ht⟩
theorem putT_old {m : List (Int × Int)} {k v : Int} (h : k ∈ m.map (fun p => p.1)) : (putT m k v).length = m.length ∧ (putT m k v).map (fun p => p.1) = m.map (fun p => p.1) := by
  unfold putT
  rw [if_pos (by
    simp only [List.any_eq_true, decide_eq_true_eq]
    obtain ⟨p, hp, e⟩ := List.mem_map.mp h
    exact ⟨p, hp, e⟩)]
  constructor
  · simp
  · rw [List.map_map]
    refine List.map_congr_left fun p hp => ?_
    simp only [Function.comp]
    split
    · rfl
    · rfl
theorem goal_D (sps : List Sp) (hl : sps.length < 1000) : ∃ r, T_spans_by_goal_D (eV eSp sps) = .ok r ∧ r.length ≤ sps.length ∧ (r.length = sps.length → (sps.map (·.2.1)).Nodup) := by
  unfold T_spans_by_goal_D
  simp only [eV, itT, Q.of_some, Q.ok_bind, enumT_map, foldQ_map]
  obtain ⟨s', e, h⟩ := foldQ_pre (f := fun (x : Int × Sp) (s : List (Int × Int)) => (Q.of (ixD (eSp x.2) (eI 1))).bind fun v => (Q.of (keyI v)).bind fun k => (Q.of (roomT s.length)).bind fun _ => .ok (putT s k x.1)) (fun d s => s.length ≤ d.length ∧ (s.length = d.length → ((d.map (·.2)).map (·.2.1)).Nodup) ∧ ∀ k, k ∈ s.map (fun p => p.1) ↔ k ∈ (d.map (·.2)).map (·.2.1)) (xs := enumT 0 sps) (s := []) [] (fun d x r s e hi => by
    obtain ⟨h1, r', h2⟩ := enumT_get 0 d x r sps (by simpa using e)
    obtain ⟨i1, i2, i3⟩ := hi
    have hlen : d.length < 1000 := by
      have := congrArg List.length h2; simp at this; omega
    have e1 : ixD (eSp x.2) (eI 1) = some (.int x.2.2.1) := rfl
    refine ⟨putT s x.2.2.1 x.1, ?_, ?_⟩
    · simp only [e1, Q.of_some, Q.ok_bind, keyI, roomT_ok (show s.length < 16777216 by omega)]
    · by_cases hk : x.2.2.1 ∈ s.map (fun p => p.1)
      · obtain ⟨q1, q2⟩ := putT_old (v := x.1) hk
        refine ⟨by simp; omega, fun q => by simp at q; omega, fun k => ?_⟩
        rw [q2, i3]
        simp only [List.map_append, List.mem_append, List.map_cons, List.map_nil, List.mem_singleton]
        constructor
        · exact .inl
        · rintro (z | rfl)
          · exact z
          · exact (i3 _).mp hk
      · rw [putT_new hk]
        refine ⟨by simp; omega, fun q => ?_, fun k => ?_⟩
        · rw [List.map_append, List.map_append, List.nodup_append]
          refine ⟨i2 (by simpa using q), by simp, fun a ha b hb => ?_⟩
          simp at hb
          subst hb
          intro e
          subst e
          exact hk ((i3 _).mpr ha)
        · simp only [List.map_append, List.mem_append, List.map_cons, List.map_nil, List.mem_singleton, i3]) ⟨by simp, by simp, by simp⟩
  have hm : ∀ (k : Int) (xs : List Sp), (enumT k xs).map (·.2) = xs ∧ (enumT k xs).length = xs.length := fun k xs => by
    induction xs generalizing k with
    | nil => exact ⟨rfl, rfl⟩
    | cons x r ih => exact ⟨by simp [enumT, ih], by simp [enumT, ih]⟩
  simp only [List.nil_append, hm] at h
  exact ⟨s', by exact congrArg (fun q => Q.bind q _) e, h.1, h.2.1⟩
noncomputable def SpsIs (e n : Int) (sps : List Sp) : Prop := sps.length ≤ 4 ∧ (∀ s ∈ sps, SpOk e n s) ∧ (sps.map (·.2.1)).Nodup ∧ Acyc sps
theorem acyc_iff {sps : List Sp} : Acyc sps ↔ ∀ m ∈ sps.map (·.2.1), (way sps (sps.length + 1) m).length ≤ sps.length := by
  constructor
  · intro h m _
    have := (way_le (sps := sps) (sps.length + 1) m).1 (acyc_root h m)
    omega
  · intro h m
    by_cases hm : m ∈ sps.map (·.2.1)
    · have := (way_le (sps := sps) (sps.length + 1) m).2 (by have := h m hm; omega)
      cases e : rootM sps (sps.length + 1) m with
      | none => rw [e] at this; cases this
      | some x => exact ⟨_, x, e⟩
    · have := (fnd_none sps 0 m).mpr hm
      exact ⟨1, m, by unfold rootM; simp only [this]⟩
theorem spans_D (e n : Int) (d : D) : Tells (T_are_spans d (.int e) (.int n)) (∃ sps, d = eV eSp sps ∧ SpsIs e n sps) := by
  have nt : ∀ d : D, isiD "tuple" (eD d) = false → Tells (T_are_spans d (.int e) (.int n)) (∃ sps, d = eV eSp sps ∧ SpsIs e n sps) := fun d hd => by
    refine .no (by unfold T_are_spans; rw [hd]; rfl) fun ⟨s, h, _⟩ => ?_
    subst h; cases hd
  cases d with
  | tuple ds =>
    have e0 : isiD "tuple" (eD (PyData.tuple ds)) = true := rfl
    have e1 : lenT (eD (PyData.tuple ds)) = some (ds.length : Int) := rfl
    have e2 : itT (PyData.tuple ds) = some ds := rfl
    by_cases hl : (4 : Int) < ds.length
    · refine .no ?_ fun ⟨s, h, h4, _⟩ => ?_
      · unfold T_are_spans
        simp only [e0, e1, hl, decide_true, Bool.not_true, Bool.false_eq_true, if_false, if_true, Q.of_some, Q.ok_bind]
      · rw [tup_inj h, List.length_map] at hl; omega
    · unfold T_are_spans
      simp only [e0, e1, e2, hl, decide_false, Bool.not_true, Bool.false_eq_true, if_false, Q.of_some, Q.ok_bind]
      obtain ⟨k, ek, hk⟩ := all_tells (span_D e n) ds
      generalize compQ ds () (fun (x_4 : D) (s_5 : Unit) => (T_is_span x_4 (.int e) (.int n)).bind fun (r_6 : Bool) => Q.ok (some r_6, ())) = qc at ek
      cases qc with
      | bad => cases ek
      | exc x os => cases ek
      | ok c =>
        rw [Q.ok_bind] at ek ⊢
        have ek : c.1.all id = k := by injection ek
        rw [ek]
        cases k with
        | false =>
          refine .no (by simp) fun ⟨sps, h, _, h2, _⟩ => ?_
          have := hk.mpr fun d hd => by
            rw [tup_inj h] at hd
            obtain ⟨s, hs, rfl⟩ := List.mem_map.mp hd
            exact ⟨s, rfl, h2 s hs⟩
          cases this
        | true =>
          obtain ⟨sps, rfl, hs⟩ := each_of (hk.mp rfl)
          have inj : ∀ s' : List Sp, PyData.tuple (sps.map eSp) = eV eSp s' → s' = sps := fun s' h => by
            have := tup_inj h
            exact (List.map_inj_right (fun a b h => by
              have h := tup_inj h
              obtain ⟨a1, a2, a3, a4⟩ := a
              obtain ⟨b1, b2, b3, b4⟩ := b
              injection h with h1 h; injection h with h2 h; injection h with h3 h; injection h with h4 h
              have h1 : a1 = b1 := int_inj h1; have h2 : a2 = b2 := int_inj h2; have h3 : a3 = b3 := int_inj h3; have h4 : a4 = b4 := int_inj h4
              rw [h1, h2, h3, h4])).mp this.symm
          have hl : sps.length ≤ 4 := by simp at hl; omega
          obtain ⟨r, er, hr, hn⟩ := goal_D sps (by omega)
          simp only [Bool.not_true, Bool.false_eq_true, if_false]
          rw [show (PyData.tuple (sps.map eSp)) = eV eSp sps from rfl, er, Q.ok_bind]
          rw [List.length_map]
          by_cases hnd : (sps.map (·.2.1)).Nodup
          · have := goal_ok sps hnd (by omega)
            rw [this] at er
            have er : KD sps 0 = r := by injection er
            subst er
            have l1 : ((KD sps 0).length : Int) = (sps.length : Int) := by rw [KD_len]
            simp only [l1, decide_true, if_true]
            rw [compQ_fun (fun m => decide (((way sps (sps.length + 1) m).length : Int) ≤ (sps.length : Int))) (fun x _ => by
              rw [way_ok sps x (by omega)]
              simp only [Q.ok_bind, eD, lenT_V, Q.of_some, List.length_map]), Q.ok_bind, Q.ok_bind]
            refine .of rfl ?_
            rw [List.all_map, List.all_eq_true]
            constructor
            · intro h
              refine ⟨sps, rfl, hl, hs, hnd, acyc_iff.mpr fun m hm => ?_⟩
              have := h m (by rw [show (fun p : Int × Int => p.1) = fun p => p.1 from rfl, KD_keys]; exact hm)
              simpa using this
            · rintro ⟨s', h, h1, h2, h3, h4⟩ m hm
              rw [inj s' h] at h4
              have := acyc_iff.mp h4 m (by rw [KD_keys] at hm; exact hm)
              simpa using this
          · have : decide (((r.length : Nat) : Int) = (sps.length : Int)) = false := decide_eq_false (by
              intro z; exact hnd (hn (by omega)))
            refine .no (by simp only [this, Bool.false_eq_true, if_false, Q.ok_bind]) fun ⟨s', h, h1, h2, h3, h4⟩ => ?_
            rw [inj s' h] at h3
            exact hnd h3
  | _ => exact nt _ rfl
noncomputable def IsBk (d : D) : Prop := ∃ b : Bk, d = eBk b ∧ BkOk b
theorem isBk_tup {x y z w : D} (h : IsBk (.tuple [x, y, z, w])) : ∃ b : Bk, x = .int b.1 ∧ y = .int b.2.1 ∧ z = eV eSp b.2.2.1 ∧ w = eV eBd b.2.2.2 ∧ BkOk b := by
  obtain ⟨s, h, ok⟩ := h
  have h := tup_inj h
  injection h with h1 h; injection h with h2 h; injection h with h3 h; injection h with h4 h
  exact ⟨s, h1, h2, h3, h4, ok⟩
theorem book_D (d : D) : Tells (T_is_book d) (IsBk d) := by
  cases d with
  | tuple ds =>
    have e0 : isiD "tuple" (eD (PyData.tuple ds)) = true := rfl
    have e1 : lenT (eD (PyData.tuple ds)) = some (ds.length : Int) := rfl
    by_cases hl : ds.length = 4
    · obtain ⟨x, y, z, w, rfl⟩ := len4 hl
      have e2 : un4 (PyData.tuple [x, y, z, w]) = some (x, y, z, w) := rfl
      unfold T_is_book
      simp only [e0, e1, e2, List.length_cons, List.length_nil, Bool.not_true, Bool.false_eq_true, if_false, Q.of_some, Q.ok_bind, within_D]
      have e3 : decide (((0 + 1 + 1 + 1 + 1 : Nat) : Int) = 4) = true := rfl
      simp only [e3, Bool.not_true, Bool.false_eq_true, if_false]
      cases c1 : inR 1 60 x with
      | false =>
        refine .no (by simp) fun h => ?_
        obtain ⟨s, rfl, _, _, _, ok⟩ := isBk_tup h
        have := inR_iff.mpr ⟨s.1, rfl, ok.e0, ok.e1⟩; rw [c1] at this; cases this
      | true =>
        cases c2 : inR 1 10 y with
        | false =>
          refine .no (by simp) fun h => ?_
          obtain ⟨s, _, rfl, _, _, ok⟩ := isBk_tup h
          have := inR_iff.mpr ⟨s.2.1, rfl, ok.n0, ok.n1⟩; rw [c2] at this; cases this
        | true =>
          obtain ⟨e, rfl, e0', e1'⟩ := inR_iff.mp c1
          obtain ⟨n, rfl, n0, n1⟩ := inR_iff.mp c2
          obtain ⟨k, ek, hk⟩ := spans_D e n z
          simp only [Bool.not_true, Bool.false_eq_true, if_false, ek, Q.ok_bind]
          cases k with
          | false =>
            refine .no (by simp) fun h => ?_
            obtain ⟨s, h1, h2, rfl, _, ok⟩ := isBk_tup h
            have := hk.mpr ⟨s.2.2.1, rfl, ok.sl, by rw [int_inj h1, int_inj h2]; exact ok.so, ok.nd, ok.ac⟩
            cases this
          | true =>
            obtain ⟨sps, rfl, s1, s2, s3, s4⟩ := hk.mp rfl
            simp only [Bool.not_true, Bool.false_eq_true, if_false]
            have nt : isiD "tuple" (eD w) = false → Tells (Q.bind (α := Bool) ((if (!(isiD "tuple" (eD w))) = true then .ok true else (Q.of (lenT (eD w))).bind fun (v_8 : Int) => .ok (decide (30 < v_8)))) fun s_9 => (if s_9 = true then .ok false else (Q.of (itT w)).bind fun (xs_10 : List D) => (compQ (γ := Bool) xs_10 (() : Unit) (fun (x_11 : D) (s_12 : Unit) => (T_is_bound x_11 (.int n)).bind fun (r_13 : Bool) => .ok (some r_13, ()))).bind fun c_14 => .ok (List.all c_14.1 id))) (IsBk (.tuple [.int e, .int n, eV eSp sps, w])) := fun hd => by
              refine .no (by rw [hd]; rfl) fun h => ?_
              obtain ⟨s, _, _, _, rfl, ok⟩ := isBk_tup h
              cases hd
            cases w with
            | tuple ws =>
              have f0 : isiD "tuple" (eD (PyData.tuple ws)) = true := rfl
              have f1 : lenT (eD (PyData.tuple ws)) = some (ws.length : Int) := rfl
              have f2 : itT (PyData.tuple ws) = some ws := rfl
              simp only [f0, f1, f2, Bool.not_true, Bool.false_eq_true, if_false, Q.of_some, Q.ok_bind]
              by_cases h30 : (30 : Int) < ws.length
              · refine .no (by simp [h30]) fun h => ?_
                obtain ⟨s, _, _, _, h4, ok⟩ := isBk_tup h
                have := ok.bl
                rw [tup_inj h4, List.length_map] at h30; omega
              · simp only [h30, decide_false, Bool.false_eq_true, if_false]
                obtain ⟨k, ek, hk⟩ := all_tells (bound_D n) ws
                refine ⟨k, ek, hk.trans ?_⟩
                constructor
                · intro h
                  obtain ⟨bds, rfl, hb⟩ := each_of h
                  exact ⟨(e, n, sps, bds), rfl, ⟨e0', e1', n0, n1, s1, s2, s3, s4, by simp at h30 ⊢; omega, hb⟩⟩
                · intro h d hd
                  obtain ⟨s, h1, h2, h3, h4, ok⟩ := isBk_tup h
                  rw [tup_inj h4] at hd
                  obtain ⟨t, ht, rfl⟩ := List.mem_map.mp hd
                  exact ⟨t, rfl, by rw [int_inj h2]; exact ok.bo t ht⟩
            | _ => exact nt rfl
    · refine .no ?_ fun ⟨s, h, _⟩ => hl (by rw [tup_inj h]; rfl)
      have : decide ((ds.length : Int) = 4) = false := decide_eq_false (by omega)
      unfold T_is_book
      simp only [e0, e1, this, Bool.not_true, Bool.not_false, Bool.false_eq_true, if_false, if_true, Q.of_some, Q.ok_bind]
  | _ => exact .no (by unfold T_is_book; rfl) fun ⟨s, h, _⟩ => by cases h
end Law
namespace Law
open PySem L2 DL
theorem nd_inj {α : Type} {l : List α} (h : l.Nodup) {i j : Nat} {x : α} (h1 : l[i]? = some x) (h2 : l[j]? = some x) : i = j := by
  have l1 := lt_of_get h1; have l2 := lt_of_get h2
  rw [List.getElem?_eq_getElem l1] at h1; rw [List.getElem?_eq_getElem l2] at h2
  have e := (Option.some.inj h1).trans (Option.some.inj h2).symm
  have p := List.pairwise_iff_getElem.mp (List.nodup_iff_pairwise_ne.mp h)
  rcases Nat.lt_trichotomy i j with c | c | c
  · exact absurd e (p i j l1 l2 c)
  · exact c
  · exact absurd e.symm (p j i l2 l1 c)
theorem fnd_mem {sps : List Sp} {m : Int} {i : Nat} {s : Sp} (h : fnd sps 0 m = some (i, s)) : s ∈ sps ∧ s.2.1 = m := by
  obtain ⟨_, h2, h3⟩ := fnd_at sps 0 i m s h
  exact ⟨List.mem_of_getElem? h2, h3⟩
theorem goal_one {sps : List Sp} (nd : (sps.map (·.2.1)).Nodup) {s s' : Sp} (h : s ∈ sps) (h' : s' ∈ sps) (e : s.2.1 = s'.2.1) : s = s' := by
  obtain ⟨i, hi⟩ := List.getElem?_of_mem h
  obtain ⟨j, hj⟩ := List.getElem?_of_mem h'
  have : i = j := nd_inj nd (x := s.2.1) (by rw [List.getElem?_map, hi]; rfl) (by rw [List.getElem?_map, hj, e]; rfl)
  subst this
  rw [hi] at hj; cases hj; rfl
end Law
namespace Law
open PySem L2 DL
theorem acyc_part {sps sps' : List Sp} (ha : Acyc sps) (nd : (sps.map (·.2.1)).Nodup) (h : ∀ s ∈ sps', s ∈ sps) : Acyc sps' := fun m => by
  obtain ⟨k, x, hx⟩ := ha m
  have key : ∀ (k : Nat) (m x : Int), rootM sps k m = some x → ∃ k y, rootM sps' k m = some y := fun k => by
    induction k with
    | zero => intro m x h; simp [rootM] at h
    | succ k ih =>
      intro m x hx
      cases z : fnd sps' 0 m with
      | none => exact ⟨1, m, by unfold rootM; rw [z]⟩
      | some p =>
        obtain ⟨i, s⟩ := p
        obtain ⟨hs, es⟩ := fnd_mem z
        unfold rootM at hx
        cases z' : fnd sps 0 m with
        | none => exact absurd (List.mem_map.mpr ⟨s, h s hs, es⟩) ((fnd_none sps 0 m).1 z')
        | some p' =>
          obtain ⟨i', t⟩ := p'
          obtain ⟨ht, et⟩ := fnd_mem z'
          have e : t = s := goal_one nd ht (h s hs) (by rw [et, es])
          rw [z'] at hx
          simp only at hx
          rw [e] at hx
          obtain ⟨k', y, hy⟩ := ih s.1 x hx
          exact ⟨k' + 1, y, by unfold rootM; rw [z]; exact hy⟩
  exact key k m x hx
end Law
namespace Law
open PySem L2 DL
theorem cut_but {α : Type} (xs : List α) : cutD xs none (some (-1)) = xs.dropLast := by
  unfold cutD
  rw [HT.sIx_none, List.dropLast_eq_take]
  simp only [List.drop_zero, Nat.sub_zero]
  have : HT.sIx xs.length xs.length (some (-1)) = xs.length - 1 := by
    show (if (-1 : Int) < 0 then ((-1 : Int) + (xs.length : Int)).toNat else min (-1 : Int).toNat xs.length) = _
    rw [if_pos (by omega)]; omega
  rw [this]
end Law
namespace Law
open PySem L2 DL
noncomputable def nS (i : Int) : Str := Str.ofString (toString i)
noncomputable def Sn (i : Int) : Prop := -60 ≤ i ∧ i ≤ 60
noncomputable def okN (i : Int) : Bool := (match T_read_number (nS i) with | .ok (some j) => i == j | _ => false) && decide ((nS i).length ≤ 3) && (nS i).cps.toList.all (fun c => decide (c ≠ 32) && decide (c ≠ 10))
theorem all_n : ((List.range 121).all fun k => okN ((k : Int) - 60)) = true := by decide +kernel
theorem okN_of {i : Int} (h : Sn i) : okN i = true := by
  have := List.all_eq_true.1 all_n (i + 60).toNat (List.mem_range.2 (by have := h.2; omega))
  have e : (((i + 60).toNat : Nat) : Int) - 60 = i := by have := h.1; omega
  rw [e] at this
  exact this
theorem read_n {i : Int} (h : Sn i) : T_read_number (nS i) = .ok (some i) := by
  have := okN_of h
  unfold okN at this
  simp only [Bool.and_eq_true] at this
  have h1 := this.1.1
  cases e : T_read_number (nS i) with
  | ok o =>
    rw [e] at h1
    cases o with
    | none => cases h1
    | some j => have : i = j := by simpa using h1
                rw [this]
  | exc x os => rw [e] at h1; cases h1
  | bad => rw [e] at h1; cases h1
theorem len_n {i : Int} (h : Sn i) : (nS i).length ≤ 3 := by
  have := okN_of h
  unfold okN at this
  simp only [Bool.and_eq_true, decide_eq_true_eq] at this
  exact this.1.2
theorem sign_n {i : Int} (h : Sn i) : (32 : Nat) ∉ (nS i).cps.toList ∧ (10 : Nat) ∉ (nS i).cps.toList := by
  have := okN_of h
  unfold okN at this
  simp only [Bool.and_eq_true] at this
  have h2 := List.all_eq_true.1 this.2
  refine ⟨fun q => ?_, fun q => ?_⟩
  · have := h2 _ q; simp at this
  · have := h2 _ q; simp at this
theorem show_ok {i : Int} (h : Sn i) : showT i = some (nS i) := by
  unfold showT
  rw [if_pos]
  · rfl
  · have h1 := h.1; have h2 := h.2
    have : i.natAbs < 2 ^ 6 := by omega
    have h3 : i.natAbs.log2 ≤ 6 := by
      by_cases c : i.natAbs = 0
      · rw [c]; decide
      · have := (Nat.log2_lt c).2 this; omega
    omega
end Law
namespace Law
open PySem L2 DL
inductive Rt
  | hours (i : Int) | marks (i : Int) | span (s : Sp) | bound (b : Bd)
noncomputable def Rt.w : Rt → Str
  | .hours _ => "hours" | .marks _ => "marks" | .span _ => "span" | .bound _ => "bound"
noncomputable def Rt.ns : Rt → List Int
  | .hours i => [i] | .marks i => [i] | .span s => [s.1, s.2.1, s.2.2.1, s.2.2.2] | .bound b => [b.1, b.2.1, b.2.2]
noncomputable def Rt.txt (r : Rt) : Str := Txt.join " " (r.w :: r.ns.map nS)
noncomputable def Rt.Sn (r : Rt) : Prop := ∀ i ∈ r.ns, Law.Sn i
theorem join_len (y : Str) (parts : List Str) : (Txt.join y parts).length ≤ (parts.map (·.length)).sum + parts.length * y.length := by
  rw [TL.join_eq]; exact StrLaws.join_length_le y parts
theorem sum_n : ∀ {is : List Int}, (∀ i ∈ is, Sn i) → ((is.map nS).map (·.length)).sum ≤ 3 * is.length
  | [], _ => by simp
  | i :: is, h => by
    have := sum_n (is := is) fun j hj => h j (List.mem_cons_of_mem _ hj)
    have h1 := len_n (h i List.mem_cons_self)
    simp only [List.map_cons, List.sum_cons, List.length_cons]
    omega
theorem sl16 : sizeLine = 16777216 := rfl
theorem wlen (r : Rt) : r.w.length ≤ 5 := by cases r <;> simp only [Rt.w] <;> decide +kernel
theorem nlen (r : Rt) : r.ns.length ≤ 4 := by cases r <;> simp [Rt.ns]
theorem Rt.len {r : Rt} (h : r.Sn) : r.txt.length ≤ 100 := by
  have h1 := join_len " " (r.w :: r.ns.map nS)
  have h2 := sum_n h
  have h3 := wlen r; have h4 := nlen r
  have h5 : (" " : Str).length = 1 := by decide +kernel
  unfold Rt.txt
  simp only [List.map_cons, List.sum_cons, List.length_cons, List.length_map, h5] at h1
  omega
theorem wsign (r : Rt) : (32 : Nat) ∉ r.w.cps.toList ∧ (10 : Nat) ∉ r.w.cps.toList := by cases r <;> simp only [Rt.w] <;> decide +kernel
theorem split_row {r : Rt} (h : r.Sn) : splitT r.txt (" " : Str) = some (r.w :: r.ns.map nS) := by
  unfold splitT
  rw [if_pos ⟨by decide +kernel, by have := Rt.len h; rw [sl16]; omega⟩]
  congr 1
  refine TL.split_join (s := 32) (S := []) (by decide +kernel) (by decide +kernel) (by simp) fun p hp => ?_
  rcases List.mem_cons.mp hp with rfl | hp
  · exact (wsign r).1
  · obtain ⟨i, hi, rfl⟩ := List.mem_map.mp hp
    exact (sign_n (h i hi)).1
theorem tl_lf {r : Rt} (h : r.Sn) : (10 : Nat) ∉ TL.tl r.txt := by
  unfold Rt.txt
  rw [TL.join_eq, TL.tl_join]
  have key : ∀ parts : List Str, (∀ p ∈ parts, (10 : Nat) ∉ TL.tl p) → (10 : Nat) ∉ TL.joinL (TL.tl (" " : Str)) (parts.map TL.tl) := fun parts => by
    induction parts with
    | nil => intro _ q; cases q
    | cons p ps ih =>
      intro hp
      cases ps with
      | nil => exact hp p List.mem_cons_self
      | cons z ps =>
        have h1 := hp p List.mem_cons_self
        have h2 := ih fun q hq => hp q (List.mem_cons_of_mem _ hq)
        have h3 : (10 : Nat) ∉ TL.tl (" " : Str) := by decide +kernel
        show 10 ∉ TL.tl p ++ (TL.tl (" " : Str) ++ TL.joinL (TL.tl (" " : Str)) ((z :: ps).map TL.tl))
        simp only [List.mem_append, not_or]
        exact ⟨h1, h3, h2⟩
  refine key _ fun p hp => ?_
  rcases List.mem_cons.mp hp with rfl | hp
  · exact (wsign r).2
  · obtain ⟨i, hi, rfl⟩ := List.mem_map.mp hp
    exact (sign_n (h i hi)).2
theorem read_row {r : Rt} (h : r.Sn) : T_read_row r.txt = .ok (some (r.w, r.ns.map some)) := by
  unfold T_read_row
  rw [split_row h, Q.of_some, Q.ok_bind]
  have e1 : cutD (r.w :: r.ns.map nS) (some 1) none = r.ns.map nS := by rw [cut_lo (by omega)]; rfl
  have e2 : ∀ (is : List Int), (∀ i ∈ is, Law.Sn i) → compQ (γ := Option Int) (is.map nS) (() : Unit) (fun (x_2 : Str) (s_3 : Unit) => (T_read_number x_2).bind fun (r_4 : (Option Int)) => .ok (some r_4, ())) = .ok (is.map some, ()) := fun is => by
    induction is with
    | nil => intro _; rfl
    | cons i is ih =>
      intro hi
      rw [List.map_cons, compQ, read_n (hi i List.mem_cons_self), Q.ok_bind, Q.ok_noX, Q.ok_bind, ih fun j hj => hi j (List.mem_cons_of_mem _ hj)]; rfl
  rw [e1, e2 _ h, Q.ok_bind]
  have e3 : atI (r.w :: r.ns.map nS) 0 = some r.w := by rw [DL.atI_get (by omega)]; rfl
  have e4 : wgetO [("hours", 1), ("marks", 1), ("span", 4), ("bound", 3)] r.w = some ((List.length (r.ns.map some) : Nat) : Int) := by cases r <;> rfl
  have e5 : inB (eN ()) ((eV (eO eI)) (r.ns.map some)) = some false := by cases r <;> rfl
  simp only [e3, e4, e5, Q.of_some, Q.ok_bind, decide_true, Bool.not_true, Bool.false_eq_true, if_false]
noncomputable def txtOf (rs : List Rt) : Str := Txt.join "\n" (rs.map Rt.txt)
theorem sum_rows : ∀ {rs : List Rt}, (∀ r ∈ rs, r.Sn) → ((rs.map Rt.txt).map (·.length)).sum ≤ 100 * rs.length
  | [], _ => by simp
  | r :: rs, h => by
    have := sum_rows (rs := rs) fun j hj => h j (List.mem_cons_of_mem _ hj)
    have h1 := Rt.len (h r List.mem_cons_self)
    simp only [List.map_cons, List.sum_cons, List.length_cons]
    omega
theorem lf1 : ("\n" : Str).length = 1 := by decide +kernel
theorem split_txt {rs : List Rt} (h : ∀ r ∈ rs, r.Sn) (hl : rs.length ≤ 1000) (h0 : rs ≠ []) : splitT (txtOf rs) ("\n" : Str) = some (rs.map Rt.txt) := by
  unfold splitT txtOf
  have h1 := join_len "\n" (rs.map Rt.txt)
  have h2 := sum_rows h
  rw [lf1] at h1
  simp only [List.length_map] at h1
  rw [if_pos ⟨by decide +kernel, by rw [sl16]; omega⟩]
  congr 1
  refine TL.split_join (s := 10) (S := []) (by decide +kernel) (by decide +kernel) (by simpa using h0) fun p hp => ?_
  obtain ⟨r, hr, rfl⟩ := List.mem_map.mp hp
  exact tl_lf (h r hr)
theorem join_txt {rs : List Rt} (h : ∀ r ∈ rs, r.Sn) (hl : rs.length ≤ 1000) : joinT ("\n" : Str) (rs.map Rt.txt) = some (txtOf rs) := by
  unfold joinT txtOf
  have h2 := sum_rows h
  rw [lf1, if_pos]
  simp only [List.length_map]
  omega
noncomputable def go (b : Bk) (at' : Int) : Rt → Option Bk
  | .hours i => if at' = 0 then some (i, 1, [], []) else none
  | .marks i => if at' = 1 then some (b.1, i, [], []) else none
  | .span s => if 2 ≤ at' ∧ b.2.2.2 = [] then some (b.1, b.2.1, b.2.2.1 ++ [s], []) else none
  | .bound x => if 2 ≤ at' then some (b.1, b.2.1, b.2.2.1, b.2.2.2 ++ [x]) else none
noncomputable def bD (b : Bk) : D × D × D × D := (.int b.1, .int b.2.1, eV eSp b.2.2.1, eV eBd b.2.2.2)
theorem eq_none {bds : List Bd} : eqB (eD (eV eBd bds)) (eT0 ()) = some bds.isEmpty := by
  have h : ∀ bds : List Bd, PyData.canLayAll0 (bds.map eBd) = true ∧ PyData.depthAll (bds.map eBd) ≤ 3 := fun bds => by
    induction bds with
    | nil => exact ⟨rfl, by simp [PyData.depthAll]⟩
    | cons x r ih => exact ⟨by simp [PyData.canLayAll0, PyData.canLay0, ih.1], by have := ih.2; simp [PyData.depthAll, PyData.depth] at this ⊢; omega⟩
  obtain ⟨a, c⟩ := h bds
  have s1 : SeqAt.shaped (.tuple (bds.map eBd)) = true := by
    have h6 : (PyData.tuple (bds.map eBd)).canLay0 = true := by simpa [PyData.canLay0] using a
    have h5 : (PyData.tuple (bds.map eBd)).depth ≤ 64 := by simp only [PyData.depth]; omega
    simp only [SeqAt.shaped, h6, h5, decide_true, Bool.and_self]
  show eqB (.tuple (bds.map eBd)) (.tuple []) = _
  rw [eqB_of s1 rfl (by intro x h; cases h)]
  cases bds <;> simp [PyData.eqv, PyData.eqvAll]
theorem with_ok {b : Bk} {k : Int} (k0 : 0 ≤ k) (l1 : b.2.2.1.length ≤ 1000) (l2 : b.2.2.2.length ≤ 1000) (r : Rt) : T_with_row (some (bD b)) k (some (r.w, r.ns.map some)) = .ok ((go b k r).map bD) := by
  unfold T_with_row
  rw [Q.of_some, Q.ok_bind]
  by_cases c : k < 2
  · rw [if_pos (by simpa using c)]
    have : k = 0 ∨ k = 1 := by omega
    rcases this with rfl | rfl <;> cases r <;> rfl
  · rw [if_neg (by simpa using c)]
    have c2 : (2 : Int) ≤ k := by omega
    have k1 : ¬ k = 0 := by omega
    have k2 : ¬ k = 1 := by omega
    cases r with
    | hours i =>
      have : go b k (.hours i) = none := by simp [go, k1]
      rw [this]; rfl
    | marks i =>
      have : go b k (.marks i) = none := by simp [go, k2]
      rw [this]; rfl
    | span s =>
      have e0 : eqB (eD (eS (Rt.span s).w)) (eS ("span" : Str)) = some true := rfl
      have e0' : eqB (eD (eS (Rt.span s).w)) (eS ("bound" : Str)) = some false := rfl
      have e1 : eqB (eD (bD b).2.2.2) (eT0 ()) = some b.2.2.2.isEmpty := eq_none
      have e2 : addD (eD (bD b).2.2.1) ((eT1 eD) ((eV (eO eI)) ((Rt.span s).ns.map some))) = some (eV eSp (b.2.2.1 ++ [s])) := by
        show (if (b.2.2.1.map eSp).length + 1 ≤ sizeLine then some (PyData.tuple (b.2.2.1.map eSp ++ [eSp s])) else none) = _
        rw [if_pos (by rw [sl16]; simp; omega)]
        simp [eV]
      simp only [e0, e0', e1, e2, Q.of_some, Q.ok_bind, if_true]
      by_cases z : b.2.2.2 = []
      · have z' : b.2.2.2.isEmpty = true := by rw [z]; rfl
        simp only [z', if_true, go, c2, z, and_self, Option.map_some]
        rfl
      · have z' : b.2.2.2.isEmpty = false := by cases h : b.2.2.2 with | nil => exact absurd h z | cons x r => rfl
        simp only [z', Bool.false_eq_true, if_false, go, c2, z, and_false, Option.map_none]
    | bound x =>
      have e0 : eqB (eD (eS (Rt.bound x).w)) (eS ("span" : Str)) = some false := rfl
      have e0' : eqB (eD (eS (Rt.bound x).w)) (eS ("bound" : Str)) = some true := rfl
      have e2 : addD (eD (bD b).2.2.2) ((eT1 eD) ((eV (eO eI)) ((Rt.bound x).ns.map some))) = some (eV eBd (b.2.2.2 ++ [x])) := by
        show (if (b.2.2.2.map eBd).length + 1 ≤ sizeLine then some (PyData.tuple (b.2.2.2.map eBd ++ [eBd x])) else none) = _
        rw [if_pos (by rw [sl16]; simp; omega)]
        simp [eV]
      simp only [e0, e0', e2, Q.of_some, Q.ok_bind, if_true, Bool.false_eq_true, if_false, go, c2, Option.map_some]
      rfl
end Law
namespace Law
open PySem L2 DL
theorem eBk_inj06 {a b : Bk} (h : eBk a = eBk b) : a = b := by
  obtain ⟨e, n, s, d⟩ := a
  obtain ⟨e', n', s', d'⟩ := b
  simp only [eT4, eI, eV, PyData.tuple.injEq, List.cons.injEq, PyData.int.injEq, and_true] at h
  obtain ⟨rfl, rfl, h3, h4⟩ := h
  have i3 : ∀ x y : Sp, eSp x = eSp y → x = y := fun x y q => by
    obtain ⟨a, b, c, d⟩ := x; obtain ⟨a', b', c', d'⟩ := y
    simp only [eT4, eI, PyData.tuple.injEq, List.cons.injEq, PyData.int.injEq, and_true] at q
    obtain ⟨rfl, rfl, rfl, rfl⟩ := q; rfl
  have i4 : ∀ x y : Bd, eBd x = eBd y → x = y := fun x y q => by
    obtain ⟨a, b, c⟩ := x; obtain ⟨a', b', c'⟩ := y
    simp only [eT3, eI, PyData.tuple.injEq, List.cons.injEq, PyData.int.injEq, and_true] at q
    obtain ⟨rfl, rfl, rfl⟩ := q; rfl
  have mi : ∀ {α : Type} {f : α → D}, (∀ x y, f x = f y → x = y) → ∀ xs ys : List α, xs.map f = ys.map f → xs = ys := fun {α f} hf xs => by
    induction xs with
    | nil => intro ys q; cases ys with | nil => rfl | cons y r => cases q
    | cons x r ih => intro ys q; cases ys with
      | nil => cases q
      | cons y t => injection q with q1 q2; rw [hf x y q1, ih t q2]
  rw [mi i3 _ _ h3, mi i4 _ _ h4]
theorem isbk06 {b : Bk} : IsBk (eBk b) ↔ BkOk b := ⟨fun ⟨c, e, h⟩ => by rw [eBk_inj06 e]; exact h, fun h => ⟨b, rfl, h⟩⟩
theorem isb_no {b : Bk} (h : ¬ BkOk b) : T_is_book (eBk b) = .ok false := by
  obtain ⟨k, ek, hk⟩ := book_D (eBk b)
  cases k with
  | true => exact absurd (isbk06.1 (hk.mp rfl)) h
  | false => exact ek
noncomputable def stepF (x_4 : Int × Str) (s_5 : Option (D × D × D × D)) : Q (Option (D × D × D × D)) := (T_read_row x_4.2).bind fun (r_6 : (Option (Str × (List (Option Int))))) => (if (Option.isNone r_6) = true then (Q.of (fldD (eI x_4.1))).bind fun (v_7 : D) => .exc { cls := "NoText", fld := some ("row", v_7) } [] else (T_with_row s_5 x_4.1 r_6).bind fun (r_8 : (Option (D × D × D × D))) => Q.bind (α := Bool) ((if (Option.isNone r_8) = true then .ok true else (T_is_book ((eO (eT4 eD eD eD eD)) r_8)).bind fun (r_9 : Bool) => .ok (!r_9))) fun s_10 => (if s_10 = true then (Q.of (fldD (eI x_4.1))).bind fun (v_11 : D) => .exc { cls := "NoText", fld := some ("row", v_11) } [] else .ok r_8))
noncomputable def noText (k : Int) : Q (Option (D × D × D × D)) := .exc { cls := "NoText", fld := some ("row", .int k) } []
theorem eO_bD (b : Bk) : ((eO (eT4 eD eD eD eD)) (some (bD b)) : D) = eBk b := rfl
theorem step_ok {b b1 : Bk} {k : Int} {r : Rt} (k0 : 0 ≤ k) (l1 : b.2.2.1.length ≤ 1000) (l2 : b.2.2.2.length ≤ 1000) (hs : r.Sn) (h : go b k r = some b1) (hb : BkOk b1) : stepF (k, r.txt) (some (bD b)) = .ok (some (bD b1)) := by
  unfold stepF
  simp only [read_row hs, Q.ok_bind, Option.isNone_some, Bool.false_eq_true, if_false, with_ok k0 l1 l2, h, Option.map_some, eO_bD]
  rw [is_book_ok hb]; rfl
theorem step_no {b : Bk} {k : Int} {r : Rt} (k0 : 0 ≤ k) (l1 : b.2.2.1.length ≤ 1000) (l2 : b.2.2.2.length ≤ 1000) (hs : r.Sn) (h : ∀ b1, go b k r = some b1 → ¬ BkOk b1) : stepF (k, r.txt) (some (bD b)) = noText k := by
  unfold stepF
  simp only [read_row hs, Q.ok_bind, Option.isNone_some, Bool.false_eq_true, if_false, with_ok k0 l1 l2]
  cases e : go b k r with
  | none => rfl
  | some b1 =>
    simp only [Option.map_some, Option.isNone_some, Bool.false_eq_true, if_false, eO_bD, isb_no (h b1 e), Q.ok_bind, Bool.not_false, if_true]
    rfl
inductive Rds : Bk → Nat → List Rt → Bk → Prop
  | nil {b : Bk} {k : Nat} : Rds b k [] b
  | cons {b b1 b' : Bk} {k : Nat} {r : Rt} {rs : List Rt} (h : go b k r = some b1) (ok : BkOk b1) (t : Rds b1 (k + 1) rs b') : Rds b k (r :: rs) b'
theorem Rds.app {b b1 b2 : Bk} {k : Nat} {rs rs2 : List Rt} (h : Rds b k rs b1) (h2 : Rds b1 (k + rs.length) rs2 b2) : Rds b k (rs ++ rs2) b2 := by
  induction h with
  | nil => simpa using h2
  | cons h ok t ih => exact .cons h ok (ih (by simpa [Nat.add_assoc, Nat.add_comm 1] using h2))
noncomputable def Sl (b : Bk) : Prop := b.2.2.1.length ≤ 1000 ∧ b.2.2.2.length ≤ 1000
theorem BkOk.slm {b : Bk} (h : BkOk b) : Sl b := ⟨by have := h.sl; omega, by have := h.bl; omega⟩
theorem Rds.slm {b b1 : Bk} {k : Nat} {rs : List Rt} (h : Rds b k rs b1) (hb : Sl b) : Sl b1 := by
  induction h with
  | nil => exact hb
  | cons h ok t ih => exact ih ok.slm
theorem fold_cons {α σ : Type} (x : α) (xs : List α) (s : σ) (f : α → σ → Q σ) : foldQ (x :: xs) s f = (f x s).bind fun s1 => foldQ xs s1 f := rfl
theorem rds_fold {b b1 : Bk} {k : Nat} {rs : List Rt} (h : Rds b k rs b1) : ∀ (rest : List Str), Sl b → (∀ r ∈ rs, r.Sn) → foldQ (enumT (k : Int) (rs.map Rt.txt ++ rest)) (some (bD b)) stepF = foldQ (enumT ((k + rs.length : Nat) : Int) rest) (some (bD b1)) stepF := by
  induction h with
  | nil => intro rest _ _; simp
  | @cons b b1 b' k r rs h ok t ih =>
    intro rest hb hs
    rw [List.map_cons, List.cons_append, enumT, fold_cons, step_ok (by omega) hb.1 hb.2 (hs r List.mem_cons_self) h ok, Q.ok_bind]
    have := ih rest ok.slm fun q hq => hs q (List.mem_cons_of_mem _ hq)
    have e1 : ((k : Int) + 1) = ((k + 1 : Nat) : Int) := by omega
    rw [e1, this, List.length_cons, show k + 1 + rs.length = k + (rs.length + 1) by omega]
noncomputable def b00 : Bk := (1, 1, [], [])
theorem b00D : (some ((eI 1), (eI 1), (eT0 ()), (eT0 ())) : Option (D × D × D × D)) = some (bD b00) := rfl
theorem read_eq {rs : List Rt} (h : ∀ r ∈ rs, r.Sn) (hl : rs.length ≤ 1000) (h0 : rs ≠ []) : T_read_book (txtOf rs) = (foldQ (enumT 0 (rs.map Rt.txt)) (some (bD b00)) stepF).bind fun (s_12 : (Option (D × D × D × D))) => (if (decide (((List.length (rs.map Rt.txt) : Nat) : Int) = 1)) = true then noText 0 else .ok s_12) := by
  unfold T_read_book
  rw [if_neg (by simp), Q.ok_bind, split_txt h hl h0, Q.of_some, Q.ok_bind, b00D]
  rfl
theorem read_ok {rs : List Rt} {b : Bk} (h : ∀ r ∈ rs, r.Sn) (hl : rs.length ≤ 1000) (h2 : 2 ≤ rs.length) (hr : Rds b00 0 rs b) : T_read_book (txtOf rs) = .ok (some (bD b)) := by
  rw [read_eq h hl (fun q => by rw [q] at h2; simp at h2)]
  have := rds_fold hr [] ⟨by simp [b00], by simp [b00]⟩ h
  rw [List.append_nil] at this
  have e : ((0 : Nat) : Int) = 0 := rfl
  rw [e] at this
  rw [this, enumT]
  simp only [foldQ, Q.ok_bind, List.length_map]
  rw [if_neg (by simp; omega)]
theorem read_no {rs rs2 : List Rt} {r : Rt} {b : Bk} (h : ∀ q ∈ rs ++ r :: rs2, q.Sn) (hl : (rs ++ r :: rs2).length ≤ 1000) (hr : Rds b00 0 rs b) (hn : ∀ b1, go b rs.length r = some b1 → ¬ BkOk b1) : T_read_book (txtOf (rs ++ r :: rs2)) = noText rs.length := by
  rw [read_eq h hl (by simp)]
  have sb : Sl b00 := ⟨by simp [b00], by simp [b00]⟩
  have := rds_fold hr (r.txt :: rs2.map Rt.txt) sb fun q hq => h q (List.mem_append_left _ hq)
  have sl := hr.slm sb
  have e : ((0 : Nat) : Int) = 0 := rfl
  rw [e, Nat.zero_add] at this
  rw [List.map_append, List.map_cons, this, enumT, fold_cons, step_no (by omega) sl.1 sl.2 (h r (by simp)) hn]
  rfl
theorem read_one {r : Rt} {b : Bk} (h : r.Sn) (hr : Rds b00 0 [r] b) : T_read_book (txtOf [r]) = noText 0 := by
  rw [read_eq (fun q hq => by simp at hq; subst hq; exact h) (by simp) (by simp)]
  have := rds_fold hr [] ⟨by simp [b00], by simp [b00]⟩ (fun q hq => by simp at hq; subst hq; exact h)
  rw [List.append_nil] at this
  have e : ((0 : Nat) : Int) = 0 := rfl
  rw [e] at this
  rw [this, enumT]
  rfl
theorem read_nothing : T_read_book (Txt.join "\n" []) = noText 0 := by
  have e1 : Txt.join "\n" [] = Str.empty := rfl
  have e2 : splitT Str.empty ("\n" : Str) = some [Str.empty] := by
    unfold splitT
    rw [if_pos ⟨by decide +kernel, by decide +kernel⟩]
    congr 1
  have e3 : T_read_row Str.empty = .ok none := by
    have e4 : splitT Str.empty (" " : Str) = some [Str.empty] := by
      unfold splitT
      rw [if_pos ⟨by decide +kernel, by decide +kernel⟩]
      congr 1
    unfold T_read_row
    rw [e4, Q.of_some, Q.ok_bind]
    rfl
  rw [e1]
  unfold T_read_book
  rw [if_neg (by simp), Q.ok_bind, e2, Q.of_some, Q.ok_bind]
  simp only [enumT, foldQ, e3, Q.ok_bind]
  rfl
theorem refused06 {rows : List Str} {t : Str} {k : Int} (e : joinT ("\n" : Str) rows = some t) (h : T_read_book t = noText k) : T_law_refused rows k = .ok true := by
  have m1 : mTab [("NoText", true)] ("NoText" : Str) = some true := rfl
  have m3 : xfD ["NoText"] "row" (some { cls := "NoText", fld := some ("row", .int k) }) = some (.int k) := rfl
  have e4 : eqB (eD (.int k)) (eI k) = some true := by show eqB (.int k) (.int k) = _; rw [eqB_int]; simp
  unfold T_law_refused
  rw [Q.ok_bind, e, Q.of_some, Q.ok_bind, h]
  unfold noText
  simp only [Q.exc_ex, Q.exc_bind, tryQ_exc, m1, if_true, m3, Q.of_some, Q.ok_bind, Q.ok_noX, Q.lf_nx, e4]
  rfl
end Law
namespace Law
open PySem L2 DL
noncomputable def rowsOf (b : Bk) : List Rt := .hours b.1 :: .marks b.2.1 :: (b.2.2.1.map .span ++ b.2.2.2.map .bound)
structure NmOk (b : Bk) : Prop where
  e : 1 ≤ b.1 ∧ b.1 ≤ 60
  n : 1 ≤ b.2.1 ∧ b.2.1 ≤ 10
  s : ∀ s ∈ b.2.2.1, SpOk b.1 b.2.1 s
  x : ∀ x ∈ b.2.2.2, BdOk b.2.1 x
  l : b.2.2.1.length ≤ 100 ∧ b.2.2.2.length ≤ 100
theorem BkOk.nm {b : Bk} (h : BkOk b) : NmOk b := ⟨⟨h.e0, h.e1⟩, ⟨h.n0, h.n1⟩, h.so, h.bo, by have := h.sl; omega, by have := h.bl; omega⟩
theorem rows_len (b : Bk) : (rowsOf b).length = 2 + b.2.2.1.length + b.2.2.2.length := by simp [rowsOf]; omega
theorem rows_sn {b : Bk} (h : NmOk b) : ∀ r ∈ rowsOf b, r.Sn := fun r hr => by
  have e := h.e; have n := h.n
  simp only [rowsOf, List.mem_cons, List.mem_append, List.mem_map] at hr
  rcases hr with rfl | rfl | ⟨s, hs, rfl⟩ | ⟨x, hx, rfl⟩
  · intro i hi; simp only [Rt.ns, List.mem_cons, List.not_mem_nil, or_false] at hi; subst hi; exact ⟨by omega, by omega⟩
  · intro i hi; simp only [Rt.ns, List.mem_cons, List.not_mem_nil, or_false] at hi; subst hi; exact ⟨by omega, by omega⟩
  · have so := h.s s hs
    have a0 := so.a0; have a1 := so.a1; have g0 := so.g0; have g1 := so.g1; have l0 := so.l0; have lm := so.lm; have me := so.me
    intro i hi; simp only [Rt.ns, List.mem_cons, List.not_mem_nil, or_false] at hi
    rcases hi with rfl | rfl | rfl | rfl <;> exact ⟨by omega, by omega⟩
  · have so := h.x x hx
    have a0 := so.a0; have a1 := so.a1; have g0 := so.b0; have g1 := so.b1; have l0 := so.w0; have lm := so.w1
    intro i hi; simp only [Rt.ns, List.mem_cons, List.not_mem_nil, or_false] at hi
    rcases hi with rfl | rfl | rfl <;> exact ⟨by omega, by omega⟩
theorem pre_join {w w' : Str} (hw : TL.tl w' = TL.tl w ++ [32]) (x : Str) (xs : List Str) : w' ++ Txt.join " " (x :: xs) = Txt.join " " (w :: x :: xs) := TL.ext_tl (by
  have h1 : TL.tl (" " : Str) = [32] := by decide +kernel
  rw [TL.tl_append, TL.join_eq, TL.join_eq, TL.tl_join, TL.tl_join, hw, List.map_cons, List.map_cons]
  show _ = TL.tl w ++ (TL.tl (" " : Str) ++ TL.joinL (TL.tl (" " : Str)) (TL.tl x :: xs.map TL.tl))
  rw [h1]; simp)
theorem join_one (y x : Str) : Txt.join y [x] = x := by rw [TL.join_eq]; rfl
theorem cat_ok {x y : Str} (h1 : x.length ≤ 1000) (h2 : y.length ≤ 1000) : catST x y = some (x ++ y) := by
  unfold catST; rw [if_pos (by rw [sl16]; omega)]
theorem jn_len {is : List Int} (h : ∀ i ∈ is, Sn i) (hl : is.length ≤ 4) : (Txt.join " " (is.map nS)).length ≤ 100 := by
  have h1 := join_len " " (is.map nS)
  have h2 := sum_n h
  have h5 : (" " : Str).length = 1 := by decide +kernel
  rw [h5] at h1
  simp only [List.length_map] at h1
  omega
theorem jn_ok {is : List Int} (h : ∀ i ∈ is, Sn i) (hl : is.length ≤ 4) : joinT (" " : Str) (is.map nS) = some (Txt.join " " (is.map nS)) := by
  unfold joinT
  have h2 := sum_n h
  have h5 : (" " : Str).length = 1 := by decide +kernel
  rw [h5, if_pos]
  simp only [List.length_map]
  omega
theorem comp_n : ∀ {is : List Int}, (∀ i ∈ is, Sn i) → compQ (γ := Str) is (() : Unit) (fun (x_7 : Int) (s_8 : Unit) => (Q.of (showT x_7)).bind fun (v_9 : Str) => .ok (some v_9, ())) = .ok (is.map nS, ())
  | [], _ => rfl
  | i :: is, h => by
    rw [compQ, show_ok (h i List.mem_cons_self), Q.of_some, Q.ok_bind, Q.ok_noX, Q.ok_bind, comp_n fun j hj => h j (List.mem_cons_of_mem _ hj)]; rfl
theorem tl_h : TL.tl ("hours " : Str) = TL.tl ("hours" : Str) ++ [32] := by decide +kernel
theorem tl_m : TL.tl ("marks " : Str) = TL.tl ("marks" : Str) ++ [32] := by decide +kernel
theorem tl_s : TL.tl ("span " : Str) = TL.tl ("span" : Str) ++ [32] := by decide +kernel
theorem tl_b : TL.tl ("bound " : Str) = TL.tl ("bound" : Str) ++ [32] := by decide +kernel
theorem ln6 : ("hours " : Str).length ≤ 10 ∧ ("marks " : Str).length ≤ 10 ∧ ("span " : Str).length ≤ 10 ∧ ("bound " : Str).length ≤ 10 := by decide +kernel
theorem law_rows06 {b : Bk} (h : NmOk b) : T_law_rows b = .ok ((rowsOf b).map Rt.txt) := by
  have hs := rows_sn h
  have he : Sn b.1 := ⟨by have := h.e; omega, by have := h.e; omega⟩
  have hn : Sn b.2.1 := ⟨by have := h.n; omega, by have := h.n; omega⟩
  have l1 := len_n he; have l2 := len_n hn
  have w1 := ln6
  have e1 : ("hours " : Str) ++ nS b.1 = (Rt.hours b.1).txt := by
    have := pre_join tl_h (nS b.1) []
    rw [join_one] at this; exact this
  have e2 : ("marks " : Str) ++ nS b.2.1 = (Rt.marks b.2.1).txt := by
    have := pre_join tl_m (nS b.2.1) []
    rw [join_one] at this; exact this
  unfold T_law_rows
  rw [show_ok he, Q.of_some, Q.ok_bind, cat_ok (by omega) (by omega), Q.of_some, Q.ok_bind, show_ok hn, Q.of_some, Q.ok_bind, cat_ok (by omega) (by omega), Q.of_some, Q.ok_bind, e1, e2]
  have fs : ∀ (ss : List Sp) (acc : List Str), acc.length + ss.length ≤ 1000 → (∀ s ∈ ss, (Rt.span s).Sn) → foldQ ss acc (fun (x_5 : (Int × Int × Int × Int)) (s_6 : (List Str)) => (compQ (γ := Str) [x_5.1, x_5.2.1, x_5.2.2.1, x_5.2.2.2] (() : Unit) (fun (x_7 : Int) (s_8 : Unit) => (Q.of (showT x_7)).bind fun (v_9 : Str) => .ok (some v_9, ()))).bind fun c_10 => (Q.of (joinT (" " : Str) c_10.1)).bind fun (v_11 : Str) => (Q.of (catST ("span " : Str) v_11)).bind fun (v_12 : Str) => (Q.of (roomT (List.length s_6))).bind fun _ => .ok (s_6 ++ [v_12])) = .ok (acc ++ ss.map fun s => (Rt.span s).txt) := fun ss => by
    induction ss with
    | nil => intro acc _ _; simp [foldQ]
    | cons s ss ih =>
      intro acc hl hss
      have h1 := hss s List.mem_cons_self
      have e3 : compQ (γ := Str) [s.1, s.2.1, s.2.2.1, s.2.2.2] (() : Unit) (fun (x_7 : Int) (s_8 : Unit) => (Q.of (showT x_7)).bind fun (v_9 : Str) => .ok (some v_9, ())) = .ok ((Rt.span s).ns.map nS, ()) := comp_n h1
      have e4 := jn_ok (is := (Rt.span s).ns) h1 (by simp [Rt.ns])
      have e5 := jn_len (is := (Rt.span s).ns) h1 (by simp [Rt.ns])
      have e6 : ("span " : Str) ++ Txt.join " " ((Rt.span s).ns.map nS) = (Rt.span s).txt := pre_join tl_s _ _
      simp only [List.length_cons] at hl
      simp only [foldQ, e3, Q.ok_bind, e4, Q.of_some, cat_ok (show ("span " : Str).length ≤ 1000 by omega) (show (Txt.join " " ((Rt.span s).ns.map nS)).length ≤ 1000 by omega), e6, roomT_ok (show acc.length < 16777216 by omega)]
      rw [ih (acc ++ [(Rt.span s).txt]) (by simp; omega) fun q hq => hss q (List.mem_cons_of_mem _ hq)]
      simp
  have hl := h.l
  rw [fs b.2.2.1 _ (by simp; omega) (fun s hq => hs _ (by simp [rowsOf, hq])), Q.ok_bind]
  rw [compQ_fun (fun x => (Rt.bound x).txt) (fun x hx => by
    have h1 : (Rt.bound x).Sn := hs _ (by simp [rowsOf, hx])
    have e3 : compQ (γ := Str) [x.1, x.2.1, x.2.2] (() : Unit) (fun (x_7 : Int) (s_8 : Unit) => (Q.of (showT x_7)).bind fun (v_9 : Str) => .ok (some v_9, ())) = .ok ((Rt.bound x).ns.map nS, ()) := comp_n h1
    have e4 := jn_ok (is := (Rt.bound x).ns) h1 (by simp [Rt.ns])
    have e5 := jn_len (is := (Rt.bound x).ns) h1 (by simp [Rt.ns])
    have e6 : ("bound " : Str) ++ Txt.join " " ((Rt.bound x).ns.map nS) = (Rt.bound x).txt := pre_join tl_b _ _
    simp only [e3, Q.ok_bind, e4, Q.of_some, cat_ok (show ("bound " : Str).length ≤ 1000 by omega) (show (Txt.join " " ((Rt.bound x).ns.map nS)).length ≤ 1000 by omega), e6]), Q.ok_bind, catT_ok (by simp; omega), Q.of_some, Q.ok_bind]
  simp [rowsOf, Function.comp_def]
theorem fs_all : ∀ (ys : List Str) (acc : Str), acc.length + (ys.map (·.length)).sum ≤ 16777216 → fsT (ys.map some) acc = some (ys.foldl (· ++ ·) acc)
  | [], acc, _ => rfl
  | y :: ys, acc, h => by
    simp only [List.map_cons, List.sum_cons] at h
    have e : (acc ++ y).length = acc.length + y.length := Str.length_append _ _
    show (if (acc ++ y).length ≤ sizeLine then fsT (ys.map some) (acc ++ y) else none) = _
    rw [if_pos (by rw [sl16, e]; omega), fs_all ys (acc ++ y) (by rw [e]; omega)]
    rfl
theorem tl_fold : ∀ (ys : List Str) (acc : Str), TL.tl (ys.foldl (· ++ ·) acc) = TL.tl acc ++ (ys.map TL.tl).flatten
  | [], acc => by simp
  | y :: ys, acc => by
    show TL.tl (ys.foldl (· ++ ·) (acc ++ y)) = _
    rw [tl_fold ys, TL.tl_append]; simp
theorem tl_sp : TL.tl (" " : Str) = [32] := by decide +kernel
theorem fs_row {w w' : Str} (hw : TL.tl w' = TL.tl w ++ [32]) {r : Rt} (er : r.w = w) {ys : List Str} (hy : (ys.map (·.length)).sum ≤ 1000) (he : (ys.map TL.tl).flatten = TL.tl (w' ++ Txt.join " " (r.ns.map nS))) (hn : r.ns ≠ []) : fsT (ys.map some) Str.empty = some r.txt := by
  rw [fs_all ys Str.empty (by have : Str.empty.length = 0 := rfl; omega)]
  congr 1
  refine TL.ext_tl ?_
  rw [tl_fold, he]
  unfold Rt.txt
  rw [er]
  cases e : r.ns with
  | nil => exact absurd e hn
  | cons i is =>
    rw [List.map_cons, ← pre_join hw (nS i) (is.map nS)]
    rfl
theorem show_span {s : Sp} (h : (Rt.span s).Sn) : fsT [(some ("span " : Str)), (showT s.1), (some (" " : Str)), (showT s.2.1), (some (" " : Str)), (showT s.2.2.1), (some (" " : Str)), (showT s.2.2.2)] Str.empty = some (Rt.span s).txt := by
  have a := h s.1 (by simp [Rt.ns]); have b := h s.2.1 (by simp [Rt.ns]); have c := h s.2.2.1 (by simp [Rt.ns]); have d := h s.2.2.2 (by simp [Rt.ns])
  rw [show_ok a, show_ok b, show_ok c, show_ok d]
  have la := len_n a; have lb := len_n b; have lc := len_n c; have ld := len_n d; have w1 := ln6
  have h5 : (" " : Str).length = 1 := by decide +kernel
  refine fs_row (ys := [("span " : Str), nS s.1, " ", nS s.2.1, " ", nS s.2.2.1, " ", nS s.2.2.2]) tl_s (r := .span s) rfl ?_ ?_ (by simp [Rt.ns])
  · simp only [List.map_cons, List.map_nil, List.sum_cons, List.sum_nil, h5]; omega
  · rw [TL.tl_append, TL.join_eq, TL.tl_join]
    simp [Rt.ns, TL.joinL, tl_sp]
theorem show_bound {x : Bd} (h : (Rt.bound x).Sn) : fsT [(some ("bound " : Str)), (showT x.1), (some (" " : Str)), (showT x.2.1), (some (" " : Str)), (showT x.2.2)] Str.empty = some (Rt.bound x).txt := by
  have a := h x.1 (by simp [Rt.ns]); have b := h x.2.1 (by simp [Rt.ns]); have c := h x.2.2 (by simp [Rt.ns])
  rw [show_ok a, show_ok b, show_ok c]
  have la := len_n a; have lb := len_n b; have lc := len_n c; have w1 := ln6
  have h5 : (" " : Str).length = 1 := by decide +kernel
  refine fs_row (ys := [("bound " : Str), nS x.1, " ", nS x.2.1, " ", nS x.2.2]) tl_b (r := .bound x) rfl ?_ ?_ (by simp [Rt.ns])
  · simp only [List.map_cons, List.map_nil, List.sum_cons, List.sum_nil, h5]; omega
  · rw [TL.tl_append, TL.join_eq, TL.tl_join]
    simp [Rt.ns, TL.joinL, tl_sp]
theorem show_hours {i : Int} (h : Sn i) : fsT [(some ("hours " : Str)), (showT i)] Str.empty = some (Rt.hours i).txt := by
  rw [show_ok h]
  have la := len_n h; have w1 := ln6
  refine fs_row (ys := [("hours " : Str), nS i]) tl_h (r := .hours i) rfl ?_ ?_ (by simp [Rt.ns])
  · simp only [List.map_cons, List.map_nil, List.sum_cons, List.sum_nil]; omega
  · rw [TL.tl_append, TL.join_eq, TL.tl_join]
    simp [Rt.ns, TL.joinL]
theorem show_marks {i : Int} (h : Sn i) : fsT [(some ("marks " : Str)), (showT i)] Str.empty = some (Rt.marks i).txt := by
  rw [show_ok h]
  have la := len_n h; have w1 := ln6
  refine fs_row (ys := [("marks " : Str), nS i]) tl_m (r := .marks i) rfl ?_ ?_ (by simp [Rt.ns])
  · simp only [List.map_cons, List.map_nil, List.sum_cons, List.sum_nil]; omega
  · rw [TL.tl_append, TL.join_eq, TL.tl_join]
    simp [Rt.ns, TL.joinL]
theorem show_ok06 {b : Bk} (hb : BkOk b) : T_show_book b = .ok (txtOf (rowsOf b)) := by
  have h := hb.nm
  have hs := rows_sn h
  have hl := h.l
  unfold T_show_book
  rw [check_book_ok hb, Q.ok_bind, show_hours (hs (.hours b.1) (by simp [rowsOf]) _ (by simp [Rt.ns])), Q.of_some, Q.ok_bind, show_marks (hs (.marks b.2.1) (by simp [rowsOf]) _ (by simp [Rt.ns])), Q.of_some, Q.ok_bind]
  have f1 : ∀ (ss : List Sp) (acc : List Str), acc.length + ss.length ≤ 1000 → (∀ s ∈ ss, (Rt.span s).Sn) → foldQ ss acc (fun (x_4 : (Int × Int × Int × Int)) (s_5 : (List Str)) => (Q.of (fsT [(some ("span " : Str)), (showT x_4.1), (some (" " : Str)), (showT x_4.2.1), (some (" " : Str)), (showT x_4.2.2.1), (some (" " : Str)), (showT x_4.2.2.2)] Str.empty)).bind fun (v_6 : Str) => (Q.of (roomT (List.length s_5))).bind fun _ => .ok (s_5 ++ [v_6])) = .ok (acc ++ ss.map fun s => (Rt.span s).txt) := fun ss => by
    induction ss with
    | nil => intro acc _ _; simp [foldQ]
    | cons s ss ih =>
      intro acc hl hss
      simp only [List.length_cons] at hl
      simp only [foldQ, show_span (hss s List.mem_cons_self), Q.ok_bind, Q.of_some, roomT_ok (show acc.length < 16777216 by omega)]
      rw [ih (acc ++ [(Rt.span s).txt]) (by simp; omega) fun q hq => hss q (List.mem_cons_of_mem _ hq)]
      simp
  have f2 : ∀ (ss : List Bd) (acc : List Str), acc.length + ss.length ≤ 1000 → (∀ s ∈ ss, (Rt.bound s).Sn) → foldQ ss acc (fun (x_8 : (Int × Int × Int)) (s_9 : (List Str)) => (Q.of (fsT [(some ("bound " : Str)), (showT x_8.1), (some (" " : Str)), (showT x_8.2.1), (some (" " : Str)), (showT x_8.2.2)] Str.empty)).bind fun (v_10 : Str) => (Q.of (roomT (List.length s_9))).bind fun _ => .ok (s_9 ++ [v_10])) = .ok (acc ++ ss.map fun s => (Rt.bound s).txt) := fun ss => by
    induction ss with
    | nil => intro acc _ _; simp [foldQ]
    | cons s ss ih =>
      intro acc hl hss
      simp only [List.length_cons] at hl
      simp only [foldQ, show_bound (hss s List.mem_cons_self), Q.ok_bind, Q.of_some, roomT_ok (show acc.length < 16777216 by omega)]
      rw [ih (acc ++ [(Rt.bound s).txt]) (by simp; omega) fun q hq => hss q (List.mem_cons_of_mem _ hq)]
      simp
  rw [f1 _ _ (by simp; omega) (fun s hq => hs _ (by simp [rowsOf, hq])), Q.ok_bind, f2 _ _ (by simp; omega) (fun s hq => hs _ (by simp [rowsOf, hq])), Q.ok_bind]
  have e : [(Rt.hours b.1).txt, (Rt.marks b.2.1).txt] ++ (b.2.2.1.map fun s => (Rt.span s).txt) ++ (b.2.2.2.map fun s => (Rt.bound s).txt) = (rowsOf b).map Rt.txt := by simp [rowsOf, Function.comp_def]
  rw [e, join_txt hs (by rw [rows_len]; omega), Q.of_some, Q.ok_bind]
end Law
namespace Law
open PySem L2 DL
theorem lf_nx06 {σ ρ β : Type} {q : Q (LF σ ρ)} {k : σ → Q β} {kr : ρ → Q β} {R : σ → Prop} {P : β → Prop} (h : q.Post fun l => ∃ s', l = LF.nx s' ∧ R s') (hk : ∀ s, R s → (k s).Post P) : (q.lf k kr).Post P := by
  obtain ⟨l, e, s', rfl, hr⟩ := h
  rw [e, Q.lf_nx]
  exact hk s' hr
theorem rds_spans {e n : Int} : ∀ (rest done : List Sp) (k : Nat), 2 ≤ k → (∀ i, BkOk (e, n, (done ++ rest).take i, [])) → Rds (e, n, done, []) k (rest.map .span) (e, n, done ++ rest, [])
  | [], done, k, _, _ => by simpa using Rds.nil
  | s :: rest, done, k, hk, h => by
    have hok : BkOk (e, n, done ++ [s], []) := by
      have := h (done.length + 1)
      have e1 : (done ++ s :: rest).take (done.length + 1) = done ++ [s] := by
        rw [List.take_append, List.take_of_length_le (by omega)]
        simp
      rwa [e1] at this
    refine .cons (b1 := (e, n, done ++ [s], [])) (by simp [go]; omega) hok ?_
    have := rds_spans rest (done ++ [s]) (k + 1) (by omega) (by simpa using h)
    simpa using this
theorem rds_bounds {e n : Int} {sps : List Sp} : ∀ (rest done : List Bd) (k : Nat), 2 ≤ k → (∀ i, BkOk (e, n, sps, (done ++ rest).take i)) → Rds (e, n, sps, done) k (rest.map .bound) (e, n, sps, done ++ rest)
  | [], done, k, _, _ => by simpa using Rds.nil
  | s :: rest, done, k, hk, h => by
    have hok : BkOk (e, n, sps, done ++ [s]) := by
      have := h (done.length + 1)
      have e1 : (done ++ s :: rest).take (done.length + 1) = done ++ [s] := by
        rw [List.take_append, List.take_of_length_le (by omega)]
        simp
      rwa [e1] at this
    refine .cons (b1 := (e, n, sps, done ++ [s])) (by simp [go]; omega) hok ?_
    have := rds_bounds rest (done ++ [s]) (k + 1) (by omega) (by simpa using h)
    simpa using this
theorem BkOk.sub {b : Bk} (hb : BkOk b) {sps : List Sp} {bds : List Bd} (h1 : sps.Sublist b.2.2.1) (h2 : bds.Sublist b.2.2.2) : BkOk (b.1, b.2.1, sps, bds) :=
  ⟨hb.e0, hb.e1, hb.n0, hb.n1, Nat.le_trans h1.length_le hb.sl, fun s hs => hb.so s (h1.subset hs), hb.nd.sublist (h1.map _), acyc_part hb.ac hb.nd fun s hs => h1.subset hs, Nat.le_trans h2.length_le hb.bl, fun x hx => hb.bo x (h2.subset hx)⟩
theorem BkOk.prm {b : Bk} (hb : BkOk b) {sps : List Sp} {bds : List Bd} (h1 : sps.Perm b.2.2.1) (h2 : bds.Perm b.2.2.2) : BkOk (b.1, b.2.1, sps, bds) :=
  ⟨hb.e0, hb.e1, hb.n0, hb.n1, by rw [h1.length_eq]; exact hb.sl, fun s hs => hb.so s (h1.mem_iff.1 hs), ((h1.map _).nodup_iff).2 hb.nd, acyc_part hb.ac hb.nd fun s hs => h1.mem_iff.1 hs, by rw [h2.length_eq]; exact hb.bl, fun x hx => hb.bo x (h2.mem_iff.1 hx)⟩
theorem rds_head {b : Bk} (hb : BkOk b) : Rds b00 0 (rowsOf (b.1, b.2.1, b.2.2.1, [])) (b.1, b.2.1, b.2.2.1, []) := by
  have h1 : BkOk (b.1, 1, [], []) := ⟨hb.e0, hb.e1, by simp, by simp, by simp, fun s hs => by simp at hs, by simp, acyc_nil, by simp, fun x hx => by simp at hx⟩
  have h2 : BkOk (b.1, b.2.1, [], []) := hb.sub (List.nil_sublist _) (List.nil_sublist _)
  unfold rowsOf
  refine .cons (b1 := (b.1, 1, [], [])) rfl h1 (.cons (b1 := (b.1, b.2.1, [], [])) rfl h2 ?_)
  have := rds_spans (e := b.1) (n := b.2.1) b.2.2.1 [] 2 (by omega) fun i => hb.sub (by rw [List.nil_append]; exact List.take_sublist _ _) (List.nil_sublist _)
  simpa using this
theorem rds_rows {b : Bk} (hb : BkOk b) : Rds b00 0 (rowsOf b) b := by
  have h1 := rds_head hb
  have h2 := rds_bounds (e := b.1) (n := b.2.1) (sps := b.2.2.1) b.2.2.2 [] (0 + (rowsOf (b.1, b.2.1, b.2.2.1, [])).length) (by rw [rows_len]; omega) fun i => hb.sub (List.Sublist.refl _) (by rw [List.nil_append]; exact List.take_sublist _ _)
  have := h1.app (by simpa using h2)
  have e : rowsOf (b.1, b.2.1, b.2.2.1, []) ++ b.2.2.2.map .bound = rowsOf b := by simp [rowsOf]
  rw [e] at this
  exact this
theorem shaped_bk {b : Bk} (hb : BkOk b) : SeqAt.shaped (eBk b) = true := by
  have hs : ∀ l : List Sp, PyData.canLayAll0 (l.map eSp) = true ∧ PyData.depthAll (l.map eSp) ≤ 3 := fun l => by
    induction l with
    | nil => exact ⟨rfl, by simp [PyData.depthAll]⟩
    | cons x r ih => exact ⟨by simp [PyData.canLayAll0, PyData.canLay0, ih.1], by have := ih.2; simp [PyData.depthAll, PyData.depth] at this ⊢; omega⟩
  have hx : ∀ l : List Bd, PyData.canLayAll0 (l.map eBd) = true ∧ PyData.depthAll (l.map eBd) ≤ 3 := fun l => by
    induction l with
    | nil => exact ⟨rfl, by simp [PyData.depthAll]⟩
    | cons x r ih => exact ⟨by simp [PyData.canLayAll0, PyData.canLay0, ih.1], by have := ih.2; simp [PyData.depthAll, PyData.depth] at this ⊢; omega⟩
  obtain ⟨a, c⟩ := hs b.2.2.1
  obtain ⟨a', c'⟩ := hx b.2.2.2
  have e : eBk b = .tuple [.int b.1, .int b.2.1, .tuple (b.2.2.1.map eSp), .tuple (b.2.2.2.map eBd)] := rfl
  rw [e]
  generalize b.2.2.1.map eSp = u at a c
  generalize b.2.2.2.map eBd = v at a' c'
  have h6 : (PyData.tuple [.int b.1, .int b.2.1, .tuple u, .tuple v]).canLay0 = true := by simp [PyData.canLay0, PyData.canLayAll0, a, a']
  have h5 : (PyData.tuple [.int b.1, .int b.2.1, .tuple u, .tuple v]).depth ≤ 64 := by simp only [PyData.depth, PyData.depthAll]; omega
  simp only [SeqAt.shaped, h6, h5, decide_true, Bool.and_self]
theorem reads06 {b : Bk} (hb : BkOk b) : T_law_reads ((rowsOf b).map Rt.txt) b = .ok true := by
  have hs := rows_sn hb.nm
  have hl := hb.nm.l
  have e1 := read_ok hs (by rw [rows_len]; omega) (by rw [rows_len]; omega) (rds_rows hb)
  have e2 : eqB ((eO (eT4 eD eD eD eD)) (some (bD b))) ((eT4 eI eI (eV (eT4 eI eI eI eI)) (eV (eT3 eI eI eI))) b) = some true := by
    show eqB (eBk b) (eBk b) = _
    exact eqB_refl (shaped_bk hb)
  have e3 : isiD "tuple" ((eO (eT4 eD eD eD eD)) (some (bD b))) = true := rfl
  unfold T_law_reads
  rw [join_txt hs (by rw [rows_len]; omega), Q.of_some, Q.ok_bind, e1, Q.ok_bind, e2, Q.of_some, Q.ok_bind]
  simp only [e3, if_true, show_ok06 hb, Q.ok_bind, beq_self_eq_true]
theorem refuse06 {rs rs2 : List Rt} {r : Rt} {b : Bk} (h : ∀ q ∈ rs ++ r :: rs2, q.Sn) (hl : (rs ++ r :: rs2).length ≤ 1000) (hr : Rds b00 0 rs b) (hn : ∀ b1, go b rs.length r = some b1 → ¬ BkOk b1) {rows : List Str} (er : rows = (rs ++ r :: rs2).map Rt.txt) {k : Int} (ek : k = rs.length) : T_law_refused rows k = .ok true := by
  subst er ek
  exact refused06 (join_txt h hl) (read_no h hl hr hn)
theorem begins06 {b : Bk} (hb : BkOk b) : T_law_begins_right b = .ok true := by
  obtain ⟨e, n, sps, bds⟩ := b
  have nm := hb.nm
  have hl := nm.l
  have hs := rows_sn nm
  simp only at hl
  have hlen := rows_len (e, n, sps, bds)
  simp only at hlen
  unfold T_law_begins_right
  rw [law_rows06 nm, Q.ok_bind, List.length_map, rgT_ok (by omega) (by omega) (by omega) (by omega) (by omega), Q.of_some, Q.ok_bind]
  rw [forQ_all]
  · have r1 : cutD ((rowsOf (e, n, sps, bds)).map Rt.txt) none (some 1) = [(Rt.hours e).txt] := by rw [cut_hi (by omega)]; rfl
    have h1 : BkOk (e, 1, [], []) := ⟨hb.e0, hb.e1, by simp, by simp, by simp, fun s hs => by simp at hs, by simp, acyc_nil, by simp, fun x hx => by simp at hx⟩
    have q1 : T_law_refused [(Rt.hours e).txt] 0 = .ok true := refused06 (join_txt (rs := [.hours e]) (fun q hq => by simp at hq; subst hq; exact hs _ (by simp [rowsOf])) (by simp)) (read_one (hs _ (by simp [rowsOf])) (.cons (b1 := (e, 1, [], [])) rfl h1 .nil))
    have q2 : T_law_refused [] 0 = .ok true := refused06 (t := Txt.join "\n" []) rfl read_nothing
    simp only [Q.lf_nx, r1, q1, q2, Q.ok_bind, if_true]
  · intro x hx
    have hm := mem_irange.1 hx
    rw [Q.ok_bind, Q.ok_bind]
    have x0 : 0 ≤ x - 2 := by omega
    rw [cut_hi x0, cut_hi (by omega), cut_hi (by omega)]
    have e1 : ((rowsOf (e, n, sps, bds)).map Rt.txt).take x.toNat = (rowsOf (e, n, sps.take (x - 2).toNat, bds.take (max 0 (x - 2 - (sps.length : Int))).toNat)).map Rt.txt := by
      rw [← List.map_take]
      congr 1
      obtain ⟨k, hk⟩ : ∃ k : Nat, x.toNat = k + 2 := ⟨x.toNat - 2, by omega⟩
      have h1 : (x - 2).toNat = k := by omega
      have h2 : (max 0 (x - 2 - (sps.length : Int))).toNat = k - sps.length := by omega
      rw [hk, h1, h2]
      simp only [rowsOf, List.take_succ_cons, List.map_take]
      rw [List.take_append, List.length_map]
    have hb' : BkOk (e, n, sps.take (x - 2).toNat, bds.take (max 0 (x - 2 - (sps.length : Int))).toNat) := hb.sub (List.take_sublist _ _) (List.take_sublist _ _)
    rw [e1, reads06 hb', Q.ok_bind]; rfl
theorem turned06 {l : List Int} (hp : Pool l) {b : Bk} (hb : BkOk b) : (T_law_turned_right l b).Post fun r => Pool r.2 ∧ r.1 = true := by
  have hl := hb.nm.l
  unfold T_law_turned_right
  refine (take_post hp (by omega) (by omega)).noX.bind fun ⟨u, l1⟩ ⟨p1, u0, u1⟩ => ?_
  simp only at p1 u0 u1 ⊢
  have c1 : (cutD b.2.2.1 (some 1) none).length ≤ 100 := by rw [cut_lo (by omega)]; simp; omega
  have c2 : (cutD b.2.2.1 none (some 1)).length ≤ 100 := by rw [cut_hi (by omega)]; simp; omega
  have c3 : (cutD b.2.2.2 (some u) none).length ≤ 100 := by rw [cut_lo u0]; simp; omega
  have c4 : (cutD b.2.2.2 none (some u)).length ≤ 100 := by rw [cut_hi u0]; simp; omega
  rw [roomT_ok (by simp), Q.of_some, Q.ok_bind, catT_ok (by omega), Q.of_some, Q.ok_bind, roomT_ok (by simp), Q.of_some, Q.ok_bind, catT_ok (by omega), Q.of_some, Q.ok_bind, roomT_ok (by simp), Q.of_some, Q.ok_bind]
  have r1 : (cutD b.2.2.1 (some 1) none ++ cutD b.2.2.1 none (some 1)).Perm b.2.2.1 := by
    rw [cut_lo (by omega), cut_hi (by omega)]
    exact List.perm_append_comm.trans (by rw [List.take_append_drop])
  have r2 : (cutD b.2.2.2 (some u) none ++ cutD b.2.2.2 none (some u)).Perm b.2.2.2 := by
    rw [cut_lo u0, cut_hi u0]
    exact List.perm_append_comm.trans (by rw [List.take_append_drop])
  rw [compQ_fun (fun _ => true) (fun x hx => ?_), Q.ok_bind]
  · exact .ok ⟨p1, by simp⟩
  · have hx' : BkOk x := by
      simp only [List.mem_append, List.mem_singleton] at hx
      rcases hx with ((rfl | rfl) | rfl) | rfl
      · exact hb.prm (List.reverse_perm _) (.refl _)
      · exact hb.prm (.refl _) (List.reverse_perm _)
      · exact hb.prm r1 (.refl _)
      · exact hb.prm (.refl _) r2
    rw [law_rows06 hx'.nm, Q.ok_bind, reads06 hx', Q.ok_ex, Q.ok_bind]
theorem at_row {rs : List Rt} {k : Int} {r : Rt} (k0 : 0 ≤ k) (h : rs[k.toNat]? = some r) : atI (rs.map Rt.txt) k = some r.txt := by
  rw [DL.atI_get k0, List.getElem?_map, h]; rfl
theorem span_twice {b : Bk} {s : Sp} (hs : s ∈ b.2.2.1) (k : Int) : ∀ b1, go b k (.span s) = some b1 → ¬ BkOk b1 := fun b1 h => by
  simp only [go] at h
  split at h
  · cases h
    intro ok
    have nd := ok.nd
    simp only [List.map_append, List.map_cons, List.map_nil] at nd
    exact (List.nodup_append.1 nd).2.2 _ (List.mem_map_of_mem hs) _ (by simp) rfl
  · cases h
theorem more06 {l : List Int} (hp : Pool l) {b c : Bk} (hb : BkOk b) (hc : BkOk c) : (T_law_more_right l b c).Post fun r => r.1 = true := by
  have hl := hb.nm.l
  have hl' := hc.nm.l
  have sb := rows_sn hb.nm
  have sc := rows_sn hc.nm
  have rb := rds_rows hb
  have lb := rows_len b
  have lc := rows_len c
  unfold T_law_more_right
  rw [law_rows06 hb.nm, Q.ok_noX, Q.ok_bind, law_rows06 hc.nm, Q.ok_noX, Q.ok_bind, catT_ok (by simp; omega), Q.of_some, Q.ok_bind, List.length_map]
  have q1 : T_law_refused ((rowsOf b).map Rt.txt ++ (rowsOf c).map Rt.txt) ((rowsOf b).length : Int) = .ok true := by
    refine refuse06 (rs := rowsOf b) (r := .hours c.1) (rs2 := .marks c.2.1 :: (c.2.2.1.map .span ++ c.2.2.2.map .bound)) (fun q hq => ?_) (by simp [rowsOf]; omega) rb (fun b1 h => ?_) (by rw [← List.map_append]; rfl) rfl
    · rcases List.mem_append.mp hq with hq | hq
      · exact sb q hq
      · exact sc q hq
    · have : go b ((rowsOf b).length : Int) (.hours c.1) = none := by simp only [go]; rw [if_neg (by omega)]
      rw [this] at h; cases h
  rw [q1, Q.ok_noX, Q.ok_bind]
  simp only [Bool.not_true, Bool.false_eq_true, if_false]
  rw [at_row (r := .marks c.2.1) (by omega) rfl, Q.of_some, Q.ok_bind, catT_ok (by simp; omega), Q.of_some, Q.ok_bind]
  have q2 : T_law_refused ((rowsOf b).map Rt.txt ++ [(Rt.marks c.2.1).txt]) ((rowsOf b).length : Int) = .ok true := by
    refine refuse06 (rs := rowsOf b) (r := .marks c.2.1) (rs2 := []) (fun q hq => ?_) (by simp; omega) rb (fun b1 h => ?_) (by simp) rfl
    · rcases List.mem_append.mp hq with hq | hq
      · exact sb q hq
      · simp at hq; subst hq; exact sc _ (by simp [rowsOf])
    · have : go b ((rowsOf b).length : Int) (.marks c.2.1) = none := by simp only [go]; rw [if_neg (by omega)]
      rw [this] at h; cases h
  rw [q2, Q.ok_noX, Q.ok_bind]
  simp only [Bool.not_true, Bool.false_eq_true, if_false]
  have rspan : ∀ (i : Nat) (s : Sp), b.2.2.1[i]? = some s → (rowsOf b)[2 + i]? = some (.span s) := fun i s h => by
    have hi := lt_of_get h
    rw [Nat.add_comm]
    show ((b.2.2.1.map Rt.span ++ b.2.2.2.map Rt.bound))[i]? = _
    rw [List.getElem?_append_left (by simpa using hi), List.getElem?_map, h]; rfl
  have rest : ∀ s : List Int, Pool s → (Q.lf (σ := (List Int)) (ρ := (Bool × (List Int))) ((if (!(decide ((b.2.2.2 : (List (Int × Int × Int))) = []))) = true then (T_law_take s ((List.length b.2.2.2 : Nat) : Int)).noX.bind fun (r_18 : (Int × (List Int))) => (Q.of (atI b.2.2.2 r_18.1)).bind fun (v_19 : (Int × Int × Int)) => (Q.of (repVT [v_19] (30 - ((List.length b.2.2.2 : Nat) : Int)))).bind fun (v_20 : (List (Int × Int × Int))) => (Q.of (catT b.2.2.2 v_20)).bind fun (v_21 : (List (Int × Int × Int))) => (Q.ok ((b.1, b.2.1, b.2.2.1, v_21) : (Int × Int × (List (Int × Int × Int × Int)) × (List (Int × Int × Int))))).bind fun some_22 => (T_law_rows some_22).noX.bind fun (r_24 : (List Str)) => ((T_law_reads r_24 some_22).ex (fun es => [(O.lst (List.map eI r_18.2))])).bind fun (r_23 : Bool) => (if (!r_23) = true then .ok (.rt (false, r_18.2)) else (Q.of (catT v_21 (cutD v_21 none (some 2)))).bind fun (v_25 : (List (Int × Int × Int))) => (T_law_rows (b.1, b.2.1, b.2.2.1, v_25)).noX.bind fun (r_27 : (List Str)) => (T_law_refused r_27 (32 + ((List.length b.2.2.1 : Nat) : Int))).noX.bind fun (r_26 : Bool) => (if (!r_26) = true then .ok (.rt (false, r_18.2)) else (Q.ok ((b.1, b.2.1, (cutD b.2.2.1 none (some (-1))), b.2.2.2) : (Int × Int × (List (Int × Int × Int × Int)) × (List (Int × Int × Int))))).bind fun some_28 => (T_law_rows some_28).noX.bind fun (r_29 : (List Str)) => (Q.of (atI ((rowsOf b).map Rt.txt) (1 + ((List.length b.2.2.1 : Nat) : Int)))).bind fun (v_30 : Str) => (Q.of (catT r_29 [v_30])).bind fun (v_31 : (List Str)) => Q.bind (α := Bool) ((if (!(decide ((b.2.2.1 : (List (Int × Int × Int × Int))) = []))) = true then (T_law_refused v_31 (((rowsOf b).length : Int) - 1)).noX.bind fun (r_32 : Bool) => .ok (!r_32) else .ok false)) fun s_33 => (if s_33 = true then .ok (.rt (false, r_18.2)) else .ok (.nx r_18.2)))) else .ok (.nx s))) (fun s_34 => .ok (true, s_34)) (fun r => .ok r)).Post fun r => r.1 = true := fun s hps => by
    by_cases cb : b.2.2.2 = []
    · rw [if_neg (by simp [cb])]
      exact .ok rfl
    · rw [if_pos (by simp [cb])]
      have pos : 0 < b.2.2.2.length := List.length_pos_iff.mpr cb
      have bl := hb.bl
      refine lf_nx06 (R := fun _ => True) ?_ fun s' _ => .ok rfl
      refine (take_post hps (by omega) (by omega)).noX.bind fun ⟨u, l1⟩ ⟨p1, u0, u1⟩ => ?_
      simp only at p1 u0 u1 ⊢
      have hx := List.getElem?_eq_getElem (show u.toNat < b.2.2.2.length by omega)
      have er : repVT [b.2.2.2[u.toNat]'(by omega)] (30 - ((List.length b.2.2.2 : Nat) : Int)) = some (List.replicate (30 - b.2.2.2.length) (b.2.2.2[u.toNat]'(by omega))) := by
        unfold repVT
        rw [if_pos ⟨by omega, by omega, by simp⟩]
        have : (30 - ((List.length b.2.2.2 : Nat) : Int)).toNat = 30 - b.2.2.2.length := by omega
        rw [this]
        generalize b.2.2.2[u.toNat]'(by omega) = x
        generalize 30 - b.2.2.2.length = m
        congr 1
        induction m with
        | zero => rfl
        | succ m ih => rw [List.replicate_succ, List.flatten_cons, ih]; rfl
      rw [DL.atI_get u0, hx, Q.of_some, Q.ok_bind, er, Q.of_some, Q.ok_bind, catT_ok (by simp; omega), Q.of_some, Q.ok_bind, Q.ok_bind]
      have hxm := hb.bo _ (List.mem_of_getElem? hx)
      generalize b.2.2.2[u.toNat]'(by omega) = x at hxm ⊢
      generalize hv : b.2.2.2 ++ List.replicate (30 - b.2.2.2.length) x = v
      have lv : v.length = 30 := by rw [← hv]; simp; omega
      have bv : ∀ y ∈ v, BdOk b.2.1 y := fun y hy => by
        rw [← hv] at hy
        rcases List.mem_append.mp hy with hy | hy
        · exact hb.bo y hy
        · rw [(List.mem_replicate.mp hy).2]; exact hxm
      have hf : BkOk (b.1, b.2.1, b.2.2.1, v) := ⟨hb.e0, hb.e1, hb.n0, hb.n1, hb.sl, hb.so, hb.nd, hb.ac, by simp [lv], bv⟩
      rw [law_rows06 hf.nm, Q.ok_noX, Q.ok_bind, reads06 hf, Q.ok_ex, Q.ok_bind]
      simp only [Bool.not_true, Bool.false_eq_true, if_false]
      obtain ⟨y1, y2, t, rfl⟩ : ∃ y1 y2 t, v = y1 :: y2 :: t := by
        match v, lv with
        | y1 :: y2 :: t, _ => exact ⟨y1, y2, t, rfl⟩
      have ec : cutD (y1 :: y2 :: t) none (some 2) = [y1, y2] := by rw [cut_hi (by omega)]; rfl
      rw [ec, catT_ok (by simp at lv ⊢; omega), Q.of_some, Q.ok_bind]
      have nf : NmOk (b.1, b.2.1, b.2.2.1, (y1 :: y2 :: t) ++ [y1, y2]) := ⟨hf.nm.e, hf.nm.n, hf.nm.s, fun y hy => by
        rcases List.mem_append.mp hy with hy | hy
        · exact bv y hy
        · exact bv y (by simp at hy ⊢; rcases hy with rfl | rfl <;> simp), hl.1, by simp at lv ⊢; omega⟩
      rw [law_rows06 nf, Q.ok_noX, Q.ok_bind]
      have q5 : T_law_refused ((rowsOf (b.1, b.2.1, b.2.2.1, (y1 :: y2 :: t) ++ [y1, y2])).map Rt.txt) (32 + ((List.length b.2.2.1 : Nat) : Int)) = .ok true := by
        have erw : rowsOf (b.1, b.2.1, b.2.2.1, (y1 :: y2 :: t) ++ [y1, y2]) = rowsOf (b.1, b.2.1, b.2.2.1, y1 :: y2 :: t) ++ .bound y1 :: [.bound y2] := by simp [rowsOf]
        have hsn := rows_sn nf
        rw [erw] at hsn
        refine refuse06 (rs := rowsOf (b.1, b.2.1, b.2.2.1, y1 :: y2 :: t)) (r := .bound y1) (rs2 := [.bound y2]) hsn (by simp [rows_len] at lv ⊢; omega) (rds_rows hf) (fun b1 h => ?_) (by rw [erw]) (by rw [rows_len]; simp at lv ⊢; omega)
        simp only [go] at h
        split at h
        · cases h
          intro ok
          have := ok.bl
          simp at this lv; omega
        · cases h
      rw [q5, Q.ok_noX, Q.ok_bind]
      simp only [Bool.not_true, Bool.false_eq_true, if_false, Q.ok_bind]
      rw [cut_but]
      have hd : BkOk (b.1, b.2.1, b.2.2.1.dropLast, b.2.2.2) := hb.sub (List.dropLast_sublist _) (.refl _)
      rw [law_rows06 hd.nm, Q.ok_noX, Q.ok_bind]
      have lr : (rowsOf (b.1, b.2.1, b.2.2.1.dropLast, b.2.2.2)).length = 2 + (b.2.2.1.length - 1) + b.2.2.2.length := by rw [rows_len]; simp
      by_cases cs : b.2.2.1 = []
      · have e0 : atI ((rowsOf b).map Rt.txt) (1 + ((List.length b.2.2.1 : Nat) : Int)) = some (Rt.marks b.2.1).txt := at_row (by omega) (by rw [cs]; rfl)
        rw [e0, Q.of_some, Q.ok_bind, catT_ok (by simp; omega), Q.of_some, Q.ok_bind, if_neg (by simp [cs])]
        exact .ok ⟨_, rfl, trivial⟩
      · have pos2 : 0 < b.2.2.1.length := List.length_pos_iff.mpr cs
        have hz := List.getElem?_eq_getElem (show b.2.2.1.length - 1 < b.2.2.1.length by omega)
        have e0 : atI ((rowsOf b).map Rt.txt) (1 + ((List.length b.2.2.1 : Nat) : Int)) = some (Rt.span (b.2.2.1[b.2.2.1.length - 1]'(by omega))).txt := at_row (by omega) (by
          have : (1 + ((List.length b.2.2.1 : Nat) : Int)).toNat = 2 + (b.2.2.1.length - 1) := by omega
          rw [this]; exact rspan _ _ hz)
        rw [e0, Q.of_some, Q.ok_bind, catT_ok (by simp; omega), Q.of_some, Q.ok_bind, if_pos (by simp [cs])]
        have q6 : T_law_refused ((rowsOf (b.1, b.2.1, b.2.2.1.dropLast, b.2.2.2)).map Rt.txt ++ [(Rt.span (b.2.2.1[b.2.2.1.length - 1]'(by omega))).txt]) (((rowsOf b).length : Int) - 1) = .ok true := by
          refine refuse06 (rs := rowsOf (b.1, b.2.1, b.2.2.1.dropLast, b.2.2.2)) (r := .span (b.2.2.1[b.2.2.1.length - 1]'(by omega))) (rs2 := []) (fun q hq => ?_) (by simp; omega) (rds_rows hd) (fun b1 h => ?_) (by simp) (by rw [lr, lb]; omega)
          · rcases List.mem_append.mp hq with hq | hq
            · exact rows_sn hd.nm q hq
            · simp only [List.mem_singleton] at hq; subst hq
              exact sb _ (List.mem_of_getElem? (rspan _ _ hz))
          · have : go (b.1, b.2.1, b.2.2.1.dropLast, b.2.2.2) ((rowsOf (b.1, b.2.1, b.2.2.1.dropLast, b.2.2.2)).length : Int) (.span (b.2.2.1[b.2.2.1.length - 1]'(by omega))) = none := by simp [go, cb]
            rw [this] at h; cases h
        rw [q6, Q.ok_noX, Q.ok_bind]
        exact .ok ⟨_, rfl, trivial⟩
  by_cases cs : b.2.2.1 = []
  · rw [if_neg (by simp [cs]), Q.lf_nx]
    exact rest l hp
  · rw [if_pos (by simp [cs])]
    have pos : 0 < b.2.2.1.length := List.length_pos_iff.mpr cs
    refine lf_nx06 (R := fun s => Pool s) ?_ fun s' hs' => rest s' hs'
    refine (take_post hp (by omega) (by omega)).noX.bind fun ⟨u, l1⟩ ⟨p1, u0, u1⟩ => ?_
    simp only at p1 u0 u1 ⊢
    have hz := List.getElem?_eq_getElem (show u.toNat < b.2.2.1.length by omega)
    have hzm := List.mem_of_getElem? hz
    have e0 : atI ((rowsOf b).map Rt.txt) (2 + u) = some (Rt.span (b.2.2.1[u.toNat]'(by omega))).txt := at_row (by omega) (by
      have : (2 + u).toNat = 2 + u.toNat := by omega
      rw [this]; exact rspan _ _ hz)
    have hzs := sb _ (List.mem_of_getElem? (rspan _ _ hz))
    generalize b.2.2.1[u.toNat]'(by omega) = z at hzm e0 hzs
    rw [Q.ok_bind, e0, Q.of_some, Q.ok_bind, cut_hi (by omega), cut_lo (by omega), catT_ok (by simp; omega), Q.of_some, Q.ok_bind, catT_ok (by simp; omega), Q.of_some, Q.ok_bind]
    have et : (2 + ((List.length b.2.2.1 : Nat) : Int)).toNat = 2 + b.2.2.1.length := by omega
    have erw : rowsOf b = rowsOf (b.1, b.2.1, b.2.2.1, []) ++ b.2.2.2.map .bound := by simp [rowsOf]
    have lh : (rowsOf (b.1, b.2.1, b.2.2.1, [])).length = 2 + b.2.2.1.length := by rw [rows_len]; simp
    have t1 : ((rowsOf b).map Rt.txt).take (2 + b.2.2.1.length) = (rowsOf (b.1, b.2.1, b.2.2.1, [])).map Rt.txt := by
      rw [erw, List.map_append, List.take_left' (by simp [lh])]
    have t2 : ((rowsOf b).map Rt.txt).drop (2 + b.2.2.1.length) = (b.2.2.2.map Rt.bound).map Rt.txt := by
      rw [erw, List.map_append, List.drop_left' (by simp [lh])]
    rw [et, t1, t2]
    have q3 : T_law_refused ((rowsOf (b.1, b.2.1, b.2.2.1, [])).map Rt.txt ++ [(Rt.span z).txt] ++ (b.2.2.2.map Rt.bound).map Rt.txt) (2 + ((List.length b.2.2.1 : Nat) : Int)) = .ok true := by
      refine refuse06 (rs := rowsOf (b.1, b.2.1, b.2.2.1, [])) (r := .span z) (rs2 := b.2.2.2.map .bound) (fun q hq => ?_) (by simp [lh]; omega) (rds_head hb) (span_twice (b := (b.1, b.2.1, b.2.2.1, [])) hzm _) (by simp) (by rw [lh]; omega)
      rcases List.mem_append.mp hq with hq | hq
      · exact sb q (by rw [erw]; exact List.mem_append_left _ hq)
      · rcases List.mem_cons.mp hq with rfl | hq
        · exact hzs
        · exact sb q (by rw [erw]; exact List.mem_append_right _ hq)
    rw [q3, Q.ok_noX, Q.ok_bind]
    simp only [Bool.not_true, Bool.false_eq_true, if_false]
    rw [Q.ok_bind, catT_ok (by simp; omega), Q.of_some, Q.ok_bind]
    have q4 : T_law_refused ((rowsOf b).map Rt.txt ++ [(Rt.span z).txt]) ((rowsOf b).length : Int) = .ok true := by
      refine refuse06 (rs := rowsOf b) (r := .span z) (rs2 := []) (fun q hq => ?_) (by simp; omega) rb (span_twice hzm _) (by simp) rfl
      rcases List.mem_append.mp hq with hq | hq
      · exact sb q hq
      · simp only [List.mem_singleton] at hq; subst hq; exact hzs
    rw [q4, Q.ok_noX, Q.ok_bind]
    exact .ok ⟨_, rfl, p1⟩
theorem law_T (ns : List Int) (hl : ns.length ≤ 63) : T_law ns = .ok true := by
  have : (T_law ns).Post fun r => r = true := by
    unfold T_law
    obtain ⟨xs, e, hxs⟩ : ∃ xs, rgT3 0 (max 1 (min ((List.length ns : Nat) : Int) 12)) 2 = some xs ∧ ∀ x ∈ xs, 0 ≤ x ∧ x < 100 :=
      ⟨_, rgT3_ok (by omega) (by omega) (by omega) (by omega) (by omega) (by omega), fun x hx => by
        have := mem_rgT3 (by omega) hx
        omega⟩
    rw [e, Q.of_some, Q.ok_bind]
    refine forQ_post (fun _ => True) trivial (fun x hx s _ => ?_) fun s _ => .ok rfl
    have hm := hxs x hx
    refine (pool_ok ns hm.1 (by omega)).noX.bind fun l0 p0 => ?_
    refine (take_post p0 (by omega) (by omega)).noX.bind fun ⟨u, l1⟩ ⟨p1, u0, u1⟩ => ?_
    simp only at p1 u0 u1 ⊢
    obtain ⟨z, ez, hz⟩ : ∃ z : Int × Int × Int × Int, atI [(6, 4, 8, 20), (10, 4, 30, 60)] (u / 7) = some z ∧ (1 ≤ z.1 ∧ z.1 ≤ 10) ∧ (0 ≤ z.2.1 ∧ z.2.1 ≤ 4) ∧ (0 ≤ z.2.2.1 ∧ z.2.2.1 ≤ 30) ∧ (1 ≤ z.2.2.2 ∧ z.2.2.2 ≤ 60) := by
      have : u / 7 = 0 ∨ u / 7 = 1 := by omega
      rcases this with q | q <;> rw [q]
      · exact ⟨_, rfl, by simp, by simp, by simp, by simp⟩
      · exact ⟨_, rfl, by simp, by simp, by simp, by simp⟩
    rw [ez, Q.of_some, Q.ok_bind]
    obtain ⟨z1, z2, z3, z4⟩ := hz
    refine (book_ok p1 z1.1 z1.2 z2.1 z2.2 z3.1 z3.2 z4.1 z4.2).noX.bind fun ⟨b, l2⟩ ⟨p2, hb, _⟩ => ?_
    simp only at p2 hb ⊢
    refine (pool_ok ns (k := x + 1) (by omega) (by omega)).noX.bind fun l3 p3 => ?_
    refine (book_ok p3 (by omega) (by omega) (by omega) (by omega) (by omega) (by omega) (by omega) (by omega)).noX.bind fun ⟨c, l4⟩ ⟨p4, hc, _⟩ => ?_
    simp only at p4 hc ⊢
    rw [begins06 hb, Q.ok_bind]
    simp only [Bool.not_true, Bool.false_eq_true, if_false]
    refine Q.Post.bind (R := fun s => Pool s.2 ∧ s.1 = false) ((turned06 p2 hb).ex.bind fun ⟨r, l5⟩ ⟨p5, hr⟩ => ?_) fun ⟨r, l5⟩ ⟨p5, hr⟩ => ?_
    · simp only at p5 hr; subst hr
      exact .ok ⟨p5, rfl⟩
    · simp only at p5 hr ⊢
      subst hr
      simp only [Bool.false_eq_true, if_false]
      refine (more06 p5 hb hc).ex.bind fun ⟨r, l6⟩ hr => ?_
      simp only at hr
      subst hr
      simp only [Bool.not_true, Bool.false_eq_true, if_false]
      rw [law_rows06 hb.nm, Q.ok_bind, reads06 hb, Q.ok_ex, Q.ok_bind]
      exact .ok ⟨_, rfl, trivial⟩
  obtain ⟨r, e, rfl⟩ := this
  exact e
end Law
theorem Law.law_true : DL.LawTrue Law.F_law := DL.rf_law Law.T_law (fun ns => Law.R_law_s ns) Law.law_T
def PySem.W.Fast.tw6776142883321888921 : Unit := ()
open PySem PySem.W PyProof.Rows
set_option maxRecDepth 100000 in
set_option maxHeartbeats 0 in
theorem PySem.Challenge.cw_loosehours_k06_whole_texts_row_by_row_holds : PySem.Challenge.rw_loosehours_k06_whole_texts_row_by_row.Holds := by
  w_on; o_law; k_head; (case hw => w_witness2)
  k_fill
  refine DL.walk_law (l := PySem.Challenge.rw_loosehours_k06_whole_texts_row_by_row) (k := 10) (x := "_law_script") rfl rfl ⟨rfl, by decide, by decide⟩ (fun w h Y => PySem.W.kIn_of Y) ?F
  case F =>
    intro w mg fa h KX G hmg
    refine' Law.all_mk Law.law_true KX G hmg ?q_is_whole ?l_is_whole ?c_is_whole ?k_is_whole ?q_is_within ?l_is_within ?c_is_within ?k_is_within ?q_is_span ?l_is_span ?c_is_span ?k_is_span ?q_is_bound ?l_is_bound ?c_is_bound ?k_is_bound ?q_spans_by_goal ?l_spans_by_goal ?c_spans_by_goal ?k_spans_by_goal ?q_way_from ?l_way_from ?c_way_from ?k_way_from ?q_are_spans ?l_are_spans ?c_are_spans ?k_are_spans ?q_is_book ?l_is_book ?c_is_book ?k_is_book ?q_check_book ?l_check_book ?c_check_book ?k_check_book ?q_read_number ?l_read_number ?c_read_number ?k_read_number ?q_read_row ?l_read_row ?c_read_row ?k_read_row ?q_with_row ?l_with_row ?c_with_row ?k_with_row ?q_show_book ?l_show_book ?c_show_book ?k_show_book ?q_read_book ?l_read_book ?c_read_book ?k_read_book ?q__law_pool ?l__law_pool ?c__law_pool ?k__law_pool ?q__law_take ?l__law_take ?c__law_take ?k__law_take ?q__law_spans ?l__law_spans ?c__law_spans ?k__law_spans ?q__law_bounds ?l__law_bounds ?c__law_bounds ?k__law_bounds ?q__law_near_bounds ?l__law_near_bounds ?c__law_near_bounds ?k__law_near_bounds ?q__law_book ?l__law_book ?c__law_book ?k__law_book ?q__law_rows ?l__law_rows ?c__law_rows ?k__law_rows ?q__law_reads ?l__law_reads ?c__law_reads ?k__law_reads ?q__law_refused ?l__law_refused ?c__law_refused ?k__law_refused ?q__law_begins_right ?l__law_begins_right ?c__law_begins_right ?k__law_begins_right ?q__law_turned_right ?l__law_turned_right ?c__law_turned_right ?k__law_turned_right ?q__law_more_right ?l__law_more_right ?c__law_more_right ?k__law_more_right ?q_law ?l_law ?c_law ?k_law ?n_abs ?n_all ?n_bool ?n_divmod ?n_enumerate ?n_int ?n_isinstance ?n_len ?n_max ?n_min ?n_range ?n_str ?n_sum ?n_tuple ?n_zip ?g_MOST_BOUNDS ?g_MOST_END ?g_MOST_MARKS ?g_MOST_SPANS ?g_MOST_W ?q_FORMS ?l_FORMS ?y_FORMS ?o_FORMS ?z_FORMS ?v_FORMS_0 ?v_FORMS_1 ?v_FORMS_2 ?v_FORMS_3 ?eg_HourError ?ex_HourError ?ek_HourError ?eb_HourError ?et_HourError ?ei_HourError ?eg_NoBook ?ex_NoBook ?ek_NoBook ?eb_NoBook ?et_NoBook ?ei_NoBook ?eg_NoText ?lx_NoText ?rv_NoText ?xs_NoText ?ek_NoText ?eb_NoText ?et_NoText ?xn_NoText ?ei_NoText ?q_NoText_init ?xt_NoText_init ?l_NoText_init ?c_NoText_init ?k_NoText_init ?cr_HourError ?cg_HourError ?cv_HourError ?sx_NoText_NoText ?er_hn ?er_ht ?hg_NoText ?hk_NoText ?hd_NoText ?ha_NoText ?hm_NoText
    (case q_is_whole => k_is)
    (case l_is_whole => k_is)
    (case c_is_whole => k_is)
    (case k_is_whole => k_is)
    (case q_is_within => k_is)
    (case l_is_within => k_is)
    (case c_is_within => k_is)
    (case k_is_within => k_is)
    (case q_is_span => k_is)
    (case l_is_span => k_is)
    (case c_is_span => k_is)
    (case k_is_span => k_is)
    (case q_is_bound => k_is)
    (case l_is_bound => k_is)
    (case c_is_bound => k_is)
    (case k_is_bound => k_is)
    (case q_spans_by_goal => k_is)
    (case l_spans_by_goal => k_is)
    (case c_spans_by_goal => k_is)
    (case k_spans_by_goal => k_is)
    (case q_way_from => k_is)
    (case l_way_from => k_is)
    (case c_way_from => k_is)
    (case k_way_from => k_is)
    (case q_are_spans => k_is)
    (case l_are_spans => k_is)
    (case c_are_spans => k_is)
    (case k_are_spans => k_is)
    (case q_is_book => k_is)
    (case l_is_book => k_is)
    (case c_is_book => k_is)
    (case k_is_book => k_is)
    (case q_check_book => k_is)
    (case l_check_book => k_is)
    (case c_check_book => k_is)
    (case k_check_book => k_is)
    (case q_read_number => k_is)
    (case l_read_number => k_is)
    (case c_read_number => k_is)
    (case k_read_number => k_is)
    (case q_read_row => k_is)
    (case l_read_row => k_is)
    (case c_read_row => k_is)
    (case k_read_row => k_is)
    (case q_with_row => k_is)
    (case l_with_row => k_is)
    (case c_with_row => k_is)
    (case k_with_row => k_is)
    (case q_show_book => k_is)
    (case l_show_book => k_is)
    (case c_show_book => k_is)
    (case k_show_book => k_is)
    (case q_read_book => k_is)
    (case l_read_book => k_is)
    (case c_read_book => k_is)
    (case k_read_book => k_is)
    (case q__law_pool => k_is)
    (case l__law_pool => k_is)
    (case c__law_pool => k_is)
    (case k__law_pool => k_is)
    (case q__law_take => k_is)
    (case l__law_take => k_is)
    (case c__law_take => k_is)
    (case k__law_take => k_is)
    (case q__law_spans => k_is)
    (case l__law_spans => k_is)
    (case c__law_spans => k_is)
    (case k__law_spans => k_is)
    (case q__law_bounds => k_is)
    (case l__law_bounds => k_is)
    (case c__law_bounds => k_is)
    (case k__law_bounds => k_is)
    (case q__law_near_bounds => k_is)
    (case l__law_near_bounds => k_is)
    (case c__law_near_bounds => k_is)
    (case k__law_near_bounds => k_is)
    (case q__law_book => k_is)
    (case l__law_book => k_is)
    (case c__law_book => k_is)
    (case k__law_book => k_is)
    (case q__law_rows => k_is)
    (case l__law_rows => k_is)
    (case c__law_rows => k_is)
    (case k__law_rows => k_is)
    (case q__law_reads => k_is)
    (case l__law_reads => k_is)
    (case c__law_reads => k_is)
    (case k__law_reads => k_is)
    (case q__law_refused => k_is)
    (case l__law_refused => k_is)
    (case c__law_refused => k_is)
    (case k__law_refused => k_is)
    (case q__law_begins_right => k_is)
    (case l__law_begins_right => k_is)
    (case c__law_begins_right => k_is)
    (case k__law_begins_right => k_is)
    (case q__law_turned_right => k_is)
    (case l__law_turned_right => k_is)
    (case c__law_turned_right => k_is)
    (case k__law_turned_right => k_is)
    (case q__law_more_right => k_is)
    (case l__law_more_right => k_is)
    (case c__law_more_right => k_is)
    (case k__law_more_right => k_is)
    (case q_law => k_is)
    (case l_law => k_is)
    (case c_law => k_is)
    (case k_law => k_is)
    (case n_abs => k_is)
    (case n_all => k_is)
    (case n_bool => k_is)
    (case n_divmod => k_is)
    (case n_enumerate => k_is)
    (case n_int => k_is)
    (case n_isinstance => k_is)
    (case n_len => k_is)
    (case n_max => k_is)
    (case n_min => k_is)
    (case n_range => k_is)
    (case n_str => k_is)
    (case n_sum => k_is)
    (case n_tuple => k_is)
    (case n_zip => k_is)
    (case g_MOST_BOUNDS => k_is)
    (case g_MOST_END => k_is)
    (case g_MOST_MARKS => k_is)
    (case g_MOST_SPANS => k_is)
    (case g_MOST_W => k_is)
    (case q_FORMS => k_is)
    (case l_FORMS => k_is)
    (case y_FORMS => k_keys)
    (case o_FORMS => decide)
    (case z_FORMS => first | rfl | decide)
    (case v_FORMS_0 => k_is)
    (case v_FORMS_1 => k_is)
    (case v_FORMS_2 => k_is)
    (case v_FORMS_3 => k_is)
    (case eg_HourError => k_is)
    (case ex_HourError => k_exc)
    (case ek_HourError => k_is)
    (case eb_HourError => k_is)
    (case et_HourError => k_is)
    (case ei_HourError => k_is)
    (case eg_NoBook => k_is)
    (case ex_NoBook => k_exc)
    (case ek_NoBook => k_is)
    (case eb_NoBook => k_is)
    (case et_NoBook => k_is)
    (case ei_NoBook => k_is)
    (case eg_NoText => k_is)
    (case lx_NoText => k_is)
    (case rv_NoText => rfl)
    (case xs_NoText => k_is)
    (case ek_NoText => k_is)
    (case eb_NoText => k_is)
    (case et_NoText => k_is)
    (case xn_NoText => k_is)
    (case ei_NoText => k_is)
    (case q_NoText_init => k_is)
    (case xt_NoText_init => k_is)
    (case l_NoText_init => k_is)
    (case c_NoText_init => k_is)
    (case k_NoText_init => k_is)
    (case cr_HourError => k_is)
    (case cg_HourError => k_is)
    (case cv_HourError => k_is)
    (case sx_NoText_NoText => first | rfl | k_is)
    (case er_hn => k_is)
    (case er_ht => k_is)
    (case hg_NoText => k_is)
    (case hk_NoText => k_is)
    (case hd_NoText => k_is)
    (case ha_NoText => k_is)
    (case hm_NoText => k_is)
