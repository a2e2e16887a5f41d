import PyProof.Rows.All
import Wide.All
import OpenK.AllK
import Wide.FinOn
import HandS.ForMost
import HandS.ForExc
import HandS.Flow
import HandS.Walk
import HandS.IsInst
import HandS.TryMany
import HandS.TupAny
import HandS.Zip
import HandS.Wide
import HandS.TupMul
import HandS.Text
import HandS.Defaults
import HandS.ExcSuper
import HandS.HeadEnd
import KE.GoesEnum
import KE.GoesMore
import PyProof.ReprRoads
import HandS.Head0
import HandS.Head1
import HandS.Head2
import HandS.HeadHook1
import HandS.HeadHook2
import KE.KSuperObj
import HandS.ForSpec
import PySem.Challenge.RW_towerback_k68_terms_derived_by_rules
import PyProof.ReprLen
set_option Elab.async false
set_option linter.all false
set_option autoImplicit false
set_option maxRecDepth 100000
set_option maxHeartbeats 4000000
/-! Pl: plain values in place of the heap. A def's body is read as a function of plain data (D); lists that a def changes stand in owned slots. -/
namespace Pl
open PySem PySem.Spec L2
/-! ### plain data -/
inductive D where
  | non | bl (b : Bool) | int (i : Int) | str (s : Str) | tup (ds : List D) | lst (ds : List D) | dct (kvs : List (Key × D)) | fl (ds : List D) | ty (n : String)
/-- a list that is read only: locked, or the module's own -/
def SqF (K : PySem.W.Frag) (H : Hp) (a : Addr) (xs : List V) : Prop :=
  (∃ o, H a = some (.frz o (.lst xs))) ∨ ∃ (o : Obj) (its : Array Value) (n : Nat), K.lookup a = some o ∧ o.cls = .type "list" ∧ o.dict = none ∧ o.data = .seq its n ∧ its.size ≤ sizeLine ∧ Vals xs its.toList
theorem SqF.sq {K : PySem.W.Frag} {H : Hp} {a : Addr} {xs : List V} (h : SqF K H a xs) : SqL K H a xs := by
  rcases h with h | h
  · exact .inl (.inr h)
  · exact .inr h
theorem SqF.of {K : PySem.W.Frag} {H : Hp} {a : Addr} {xs : List V} (h : SqL K H a xs) (n : ∀ ys, H a ≠ some (.lst ys)) : SqF K H a xs := by
  rcases h with (h | h) | h
  · exact absurd h (n _)
  · exact .inl h
  · exact .inr h
mutual
/-- the value v, over the heap H, is the datum d; Av: addresses that no list in it has -/
inductive Rep (K : PySem.W.Frag) (Av : Addr → Prop) (H : Hp) : V → D → Prop
  | non : Rep K Av H .non .non
  | bl (b : Bool) : Rep K Av H (.bl b) (.bl b)
  | int (i : Int) : Rep K Av H (.int i) (.int i)
  | str (s : Str) : Rep K Av H (.str s) (.str s)
  | ty (n : String) : Rep K Av H (.ty n) (.ty n)
  | tup {a : Addr} {xs : List V} {ds : List D} : SqT K H a xs → RepAll K Av H xs ds → Rep K Av H (.ref a) (.tup ds)
  | lst {a : Addr} {xs : List V} {ds : List D} : H a = some (.lst xs) → ¬ Av a → RepAll K Av H xs ds → Rep K Av H (.ref a) (.lst ds)
  | fl {a : Addr} {xs : List V} {ds : List D} : SqF K H a xs → RepAll K Av H xs ds → Rep K Av H (.ref a) (.fl ds)
  | dct {a : Addr} {kvs : List (Key × V)} {kds : List (Key × D)} : H a = some (.dK kvs) → ¬ Av a → RepKV K Av H kvs kds → Rep K Av H (.ref a) (.dct kds)
inductive RepAll (K : PySem.W.Frag) (Av : Addr → Prop) (H : Hp) : List V → List D → Prop
  | nil : RepAll K Av H [] []
  | cons {v : V} {d : D} {vs : List V} {ds : List D} : Rep K Av H v d → RepAll K Av H vs ds → RepAll K Av H (v :: vs) (d :: ds)
inductive RepKV (K : PySem.W.Frag) (Av : Addr → Prop) (H : Hp) : List (Key × V) → List (Key × D) → Prop
  | nil : RepKV K Av H [] []
  | cons {k : Key} {v : V} {d : D} {vs : List (Key × V)} {ds : List (Key × D)} : Rep K Av H v d → RepKV K Av H vs ds → RepKV K Av H ((k, v) :: vs) ((k, d) :: ds)
end
section
variable {K : PySem.W.Frag} {Av Bv : Addr → Prop} {H G : Hp}
theorem RepAll.length {vs : List V} {ds : List D} (r : RepAll K Av H vs ds) : vs.length = ds.length := by
  induction ds generalizing vs with
  | nil => cases r; rfl
  | cons d ds ih => cases r with | cons _ t => simp [ih t]
theorem RepAll.get {vs : List V} {ds : List D} (r : RepAll K Av H vs ds) {i : Nat} {d : D} (e : ds[i]? = some d) : ∃ v, vs[i]? = some v ∧ Rep K Av H v d := by
  induction ds generalizing vs i with
  | nil => simp at e
  | cons d0 ds ih =>
    cases r with
    | cons h t =>
      cases i with
      | zero => simp at e; subst e; exact ⟨_, rfl, h⟩
      | succ i => simpa using ih t (by simpa using e)
theorem RepAll.getV {vs : List V} {ds : List D} (r : RepAll K Av H vs ds) {i : Nat} {v : V} (e : vs[i]? = some v) : ∃ d, ds[i]? = some d ∧ Rep K Av H v d := by
  induction ds generalizing vs i with
  | nil => cases r; simp at e
  | cons d0 ds ih =>
    cases r with
    | cons h t =>
      cases i with
      | zero => simp at e; subst e; exact ⟨_, rfl, h⟩
      | succ i => simpa using ih t (by simpa using e)
theorem RepAll.append {vs us : List V} {ds es : List D} (r : RepAll K Av H vs ds) (q : RepAll K Av H us es) : RepAll K Av H (vs ++ us) (ds ++ es) := by
  induction ds generalizing vs with
  | nil => cases r; exact q
  | cons d ds ih => cases r with | cons h t => exact .cons h (ih t)
theorem RepAll.set {vs : List V} {ds : List D} (r : RepAll K Av H vs ds) {v : V} {d : D} (q : Rep K Av H v d) (i : Nat) : RepAll K Av H (vs.set i v) (ds.set i d) := by
  induction ds generalizing vs i with
  | nil => cases r; exact .nil
  | cons d0 ds ih =>
    cases r with
    | cons h t =>
      cases i with
      | zero => exact .cons q t
      | succ i => exact .cons h (ih t i)
theorem RepAll.drop {vs : List V} {ds : List D} (r : RepAll K Av H vs ds) (i : Nat) : RepAll K Av H (vs.drop i) (ds.drop i) := by
  induction i generalizing vs ds with
  | zero => exact r
  | succ i ih => cases r with
    | nil => exact .nil
    | cons h t => exact ih t
theorem RepAll.take {vs : List V} {ds : List D} (r : RepAll K Av H vs ds) (i : Nat) : RepAll K Av H (vs.take i) (ds.take i) := by
  induction i generalizing vs ds with
  | zero => exact .nil
  | succ i ih => cases r with
    | nil => exact .nil
    | cons h t => exact .cons h (ih t)
theorem RepAll.erase {vs : List V} {ds : List D} (r : RepAll K Av H vs ds) (i : Nat) : RepAll K Av H (vs.eraseIdx i) (ds.eraseIdx i) := by
  induction i generalizing vs ds with
  | zero => cases r with
    | nil => exact .nil
    | cons h t => exact t
  | succ i ih => cases r with
    | nil => exact .nil
    | cons h t => exact .cons h (ih t)
/-- what a change of the heap must keep for a datum to stand -/
structure Keep (Av Bv : Addr → Prop) (H G : Hp) : Prop where
  tup : ∀ a xs, Rd H a (.tup xs) → Rd G a (.tup xs)
  lst : ∀ a xs, H a = some (.lst xs) → ¬ Av a → G a = some (.lst xs) ∧ ¬ Bv a
  frz : ∀ a o u, H a = some (.frz o u) → G a = some (.frz o u)
  dct : ∀ a kvs, H a = some (.dK kvs) → ¬ Av a → G a = some (.dK kvs) ∧ ¬ Bv a
theorem Keep.sqT (k : Keep Av Bv H G) {a : Addr} {xs : List V} (h : SqT K H a xs) : SqT K G a xs := by
  rcases h with h | h
  · exact .inl (k.tup a xs h)
  · exact .inr h
theorem Keep.sqF (k : Keep Av Bv H G) {a : Addr} {xs : List V} (h : SqF K H a xs) : SqF K G a xs := by
  rcases h with ⟨o, h⟩ | h
  · exact .inl ⟨o, k.frz _ _ _ h⟩
  · exact .inr h
mutual
theorem Rep.keep (k : Keep Av Bv H G) : ∀ {d : D} {v : V}, Rep K Av H v d → Rep K Bv G v d
  | _, _, .non => .non
  | _, _, .bl b => .bl b
  | _, _, .int i => .int i
  | _, _, .str s => .str s
  | _, _, .ty n => .ty n
  | _, _, .tup h r => .tup (k.sqT h) (RepAll.keep k r)
  | _, _, .lst h n r => let q := k.lst _ _ h n; .lst q.1 q.2 (RepAll.keep k r)
  | _, _, .fl h r => .fl (k.sqF h) (RepAll.keep k r)
  | _, _, .dct h n r => let q := k.dct _ _ h n; .dct q.1 q.2 (RepKV.keep k r)
theorem RepAll.keep (k : Keep Av Bv H G) : ∀ {ds : List D} {vs : List V}, RepAll K Av H vs ds → RepAll K Bv G vs ds
  | _, _, .nil => .nil
  | _, _, .cons h t => .cons (Rep.keep k h) (RepAll.keep k t)
theorem RepKV.keep (k : Keep Av Bv H G) : ∀ {ds : List (Key × D)} {vs : List (Key × V)}, RepKV K Av H vs ds → RepKV K Bv G vs ds
  | _, _, .nil => .nil
  | _, _, .cons h t => .cons (Rep.keep k h) (RepKV.keep k t)
end
theorem Same.rd {a : Addr} {u : HO} (s : Same H G) (h : Rd H a u) : Rd G a u := by
  rcases h with h | ⟨o, h⟩
  · exact .inl (s _ _ h)
  · exact .inr ⟨o, s _ _ h⟩
theorem Keep.same (s : Same H G) : Keep Av Av H G := ⟨fun _ _ h => Same.rd s h, fun _ _ h n => ⟨s _ _ h, n⟩, fun _ _ _ h => s _ _ h, fun _ _ h n => ⟨s _ _ h, n⟩⟩
theorem Keep.less (h : ∀ a, Bv a → Av a) : Keep Av Bv H H := ⟨fun _ _ h => h, fun _ _ q n => ⟨q, fun z => n (h _ z)⟩, fun _ _ _ h => h, fun _ _ q n => ⟨q, fun z => n (h _ z)⟩⟩
theorem Rep.same (s : Same H G) {v : V} {d : D} (r : Rep K Av H v d) : Rep K Av G v d := r.keep (Keep.same s)
theorem RepAll.same (s : Same H G) {v : List V} {d : List D} (r : RepAll K Av H v d) : RepAll K Av G v d := r.keep (Keep.same s)
theorem same_new {p : Addr} {o : HO} (h : H p = none) : Same H (upd H p o) := fun b x e => by
  rw [upd_ne (ne_of_none e h)]
  exact e
end
/-! ### what comes of a piece of text -/
/-- an error: its class's name, its fields -/
structure Exc where
  cls : Str
  fs : List (Str × D) := []
inductive Out (α : Type) where
  | ok (a : α)
  | err (x : Exc) (ρ : List (Option D))
  | stuck
def Out.bind {α β : Type} (o : Out α) (f : α → Out β) : Out β := match o with
  | .ok a => f a
  | .err x ρ => .err x ρ
  | .stuck => .stuck
abbrev Lc := List (Option D)
abbrev ED := Lc → Out (D × Lc)
abbrev TD := Lc → Out (Bool × Lc)
abbrev AD := Lc → Out (List D × Lc)
inductive Flow' where
  | nx | bk | ct | rt (d : D)
abbrev SD := Lc → Out (Flow' × Lc)
abbrev GD := D → Lc → Option Lc
/-! ### the slots and the heap bear the data -/
/-- addresses of the lists that stand in owned slots -/
def Own (O : List Nat) (σ : St) : Addr → Prop := fun a => ∃ i, i ∈ O ∧ σ[i]? = some (some (.ref a))
def Avd (A : Addr → Prop) (O : List Nat) (σ : St) : Addr → Prop := fun a => A a ∨ Own O σ a
structure LocR (K : PySem.W.Frag) (A : Addr → Prop) (O : List Nat) (H : Hp) (σ : St) (ρ : Lc) : Prop where
  len : σ.length = ρ.length
  dom : ∀ a, A a → H a ≠ none
  own : ∀ i, i ∈ O → ∃ a xs ds, σ[i]? = some (some (.ref a)) ∧ ρ[i]? = some (some (.lst ds)) ∧ H a = some (.lst xs) ∧ ¬ A a ∧ RepAll K (Avd A O σ) H xs ds
  inj : ∀ i j a, i ∈ O → j ∈ O → σ[i]? = some (some (.ref a)) → σ[j]? = some (some (.ref a)) → i = j
  rep : ∀ (i : Nat) (d : D), i ∉ O → ρ[i]? = some (some d) → ∃ v, σ[i]? = some (some v) ∧ Rep K (Avd A O σ) H v d
/-- what changed: nothing but the lists at W -/
def Chg (W : Addr → Prop) (H G : Hp) : Prop := ∀ a o, H a = some o → ¬ W a → G a = some o
/-- from one statement to the next -/
structure Tr (io : List Nat) (O : List Nat) (σ : St) (H : Hp) (O' : List Nat) (σ' : St) (G : Hp) : Prop where
  chg : Chg (Own O σ) H G
  new : ∀ a, Own O' σ' a → Own O σ a ∨ H a = none
  io : ∀ i, i ∈ io → σ'[i]? = σ[i]?
section
variable {K : PySem.W.Frag} {A : Addr → Prop} {O O' : List Nat} {H G G' : Hp} {σ σ' σ'' : St} {ρ ρ' : Lc} {W : Addr → Prop} {io : List Nat}
theorem Chg.refl : Chg W H H := fun _ _ h _ => h
theorem Chg.of_same (s : Same H G) : Chg W H G := fun _ _ h _ => s _ _ h
theorem Chg.trans (a : Chg W H G) (b : Chg W G G') : Chg W H G' := fun c o h n => b c o (a c o h n) n
theorem Tr.refl : Tr io O σ H O σ H := ⟨Chg.refl, fun _ h => .inl h, fun _ _ => rfl⟩
theorem Tr.trans {O'' : List Nat} (a : Tr io O σ H O' σ' G) (b : Tr io O' σ' G O'' σ'' G') : Tr io O σ H O'' σ'' G' where
  chg := fun c o h n => b.chg c o (a.chg c o h n) fun z => (a.new c z).elim n fun e => by rw [h] at e; cases e
  new := fun c z => by
    rcases b.new c z with z | z
    · exact a.new c z
    · by_cases q : Own O σ c
      · exact .inl q
      · refine .inr ?_
        cases e : H c with
        | none => rfl
        | some o => rw [a.chg c o e q] at z; cases z
  io := fun i h => (b.io i h).trans (a.io i h)
theorem Tr.of_chg (c : Chg (Own O σ) H G) : Tr io O σ H O σ G := ⟨c, fun _ h => .inl h, fun _ _ => rfl⟩
theorem LocR.owned (r : LocR K A O H σ ρ) {a : Addr} (h : Own O σ a) : ∃ xs, H a = some (.lst xs) ∧ ¬ A a := by
  obtain ⟨i, hi, e⟩ := h
  obtain ⟨b, xs, ds, e1, _, e3, n, _⟩ := r.own i hi
  rw [e] at e1
  cases e1
  exact ⟨xs, e3, n⟩
theorem LocR.avdom (r : LocR K A O H σ ρ) : ∀ a, Avd A O σ a → H a ≠ none := fun a h => by
  rcases h with h | h
  · exact r.dom a h
  · obtain ⟨xs, e, _⟩ := r.owned h
    rw [e]
    exact fun z => nomatch z
/-- data that stand stay so, whatever is done to the owned lists -/
theorem LocR.keep (r : LocR K A O H σ ρ) (c : Chg (Own O σ) H G) : Keep (Avd A O σ) (Avd A O σ) H G where
  tup := fun a xs h => by
    rcases h with h | ⟨o, h⟩
    · exact .inl (c _ _ h fun z => by obtain ⟨ys, e, _⟩ := r.owned z; rw [h] at e; cases e)
    · exact .inr ⟨o, c _ _ h fun z => by obtain ⟨ys, e, _⟩ := r.owned z; rw [h] at e; cases e⟩
  lst := fun a xs h n => ⟨c _ _ h fun z => n (.inr z), n⟩
  frz := fun a o u h => c _ _ h fun z => by obtain ⟨ys, e, _⟩ := r.owned z; rw [h] at e; cases e
  dct := fun a kvs h n => ⟨c _ _ h fun z => n (.inr z), n⟩
theorem LocR.same (r : LocR K A O H σ ρ) (s : Same H G) : LocR K A O G σ ρ where
  len := r.len
  dom := fun a h z => by
    cases e : H a with
    | none => exact r.dom a h e
    | some o => rw [s a o e] at z; cases z
  own := fun i h => by
    obtain ⟨a, xs, ds, e1, e2, e3, n, q⟩ := r.own i h
    exact ⟨a, xs, ds, e1, e2, s _ _ e3, n, q.same s⟩
  inj := r.inj
  rep := fun i d h e => by
    obtain ⟨v, e1, q⟩ := r.rep i d h e
    exact ⟨v, e1, q.same s⟩
end
end Pl
set_option maxHeartbeats 4000000
namespace Pl
open PySem PySem.Spec L2
/-! ### judgements -/
/-- a def's surroundings: io: the parameters that go in and out; oe: what is owned where an error flies; A: the addresses that are no one's here; EX: what is wished of an error -/
structure Pc (io oe : List Nat) where
  A : Addr → Prop
  EX : WX
def FldR (K : PySem.W.Frag) (H : Hp) : List (Str × V) → List (Str × D) → Prop
  | [], [] => True
  | (f, v) :: r, (g, d) :: s => f = g ∧ Rep K (fun _ => True) H v d ∧ FldR K H r s
  | _, _ => False
/-- an error's class and its own dict -/
def ErrR (K : PySem.W.Frag) (mg : Str → Option Value) (x : Exc) (cls : Value) (dd : Option Addr) (H : Hp) : Prop :=
  ∃ C, mg x.cls = some (.ref C) ∧ cls = .ref C ∧ ((x.fs = [] ∧ dd = none) ∨ ∃ a fs, dd = some a ∧ H a = some (.xd fs) ∧ FldR K H fs x.fs)
/-- what is wished behind o -/
def Post {α β : Type} {io oe : List Nat} (X : Cx) (G : Pc io oe) (O : List Nat) (σ : L2.St) (H : Hp) (R : Hp → β → α → Prop) (o : Out (α × Lc)) (Q : β → Hp → Prop) : Prop :=
  match o with
  | .ok p => ∀ b H', Chg (Own O σ) H H' → LocR X.K G.A O H' σ p.2 → R H' b p.1 → Q b H'
  | .err x ρ => ∀ cls dd H', Tr io O σ H oe σ H' → LocR X.K G.A oe H' σ ρ → ErrR X.K X.mg x cls dd H' → G.EX cls dd σ H'
  | .stuck => False
def tG {α β : Type} {io oe : List Nat} (X : Cx) (G : Pc io oe) (O : List Nat) (R : L2.St → Hp → β → α → Prop) (f : Lc → Out (α × Lc)) : L2.St → Hp → (β → Hp → Prop) → Prop :=
  fun σ H Q => ∃ ρ, LocR X.K G.A O H σ ρ ∧ Post X G O σ H (R σ) (f ρ) Q
abbrev RE {io oe : List Nat} (X : Cx) (G : Pc io oe) (O : List Nat) : L2.St → Hp → V → D → Prop := fun σ H v d => Rep X.K (Avd G.A O σ) H v d
abbrev RT : L2.St → Hp → Bool → Bool → Prop := fun _ _ b c => b = c
abbrev RA {io oe : List Nat} (X : Cx) (G : Pc io oe) (O : List Nat) : L2.St → Hp → List V → List D → Prop := fun σ H v d => RepAll X.K (Avd G.A O σ) H v d
/-- an expression, a test, an argument list -/
def PEp {io oe : List Nat} (X : Cx) (G : Pc io oe) (O : List Nat) (e : Expr) (f : ED) : Prop := PE X e (tG X G O (RE X G O) f)
def PTp {io oe : List Nat} (X : Cx) (G : Pc io oe) (O : List Nat) (e : Expr) (f : TD) : Prop := PT X e (tG X G O RT f)
def PWp {io oe : List Nat} (X : Cx) (G : Pc io oe) (O : List Nat) (e : Expr) (f : TD) : Prop := PW X e (tG X G O RT f)
def ALen (f : AD) (n : Nat) : Prop := ∀ ρ q, f ρ = .ok q → q.1.length = n
structure PAp {io oe : List Nat} (X : Cx) (G : Pc io oe) (O : List Nat) (es : List Expr) (f : AD) : Prop where
  pa : PA X es (tG X G O (RA X G O) f)
  len : ALen f es.length
section
variable {X : Cx} {io oe : List Nat} {G : Pc io oe} {O : List Nat} {σ : L2.St} {H H1 : Hp}
theorem Post.from {α β : Type} {R : Hp → β → α → Prop} {o : Out (α × Lc)} {Q : β → Hp → Prop} (h : Post X G O σ H R o Q) (c : Chg (Own O σ) H H1) : Post X G O σ H1 R o Q := by
  cases o with
  | ok p => exact fun b H' c' => h b H' (c.trans c')
  | err x ρ => exact fun cls dd H' c' => h cls dd H' ((Tr.of_chg c).trans c')
  | stuck => exact h
/-- a first step, then the rest -/
theorem Post.step {α β γ δ : Type} {R : Hp → β → α → Prop} {S : Hp → δ → γ → Prop} {o : Out (α × Lc)} {k : α × Lc → Out (γ × Lc)} {Q : δ → Hp → Prop} {P : β → Hp → Prop}
    (h : Post X G O σ H S (o.bind k) Q)
    (hk : ∀ a ρ b H', LocR X.K G.A O H' σ ρ → R H' b a → Chg (Own O σ) H H' → Post X G O σ H' S (k (a, ρ)) Q → P b H') : Post X G O σ H R o P := by
  cases o with
  | ok p => exact fun b H' c r q => hk p.1 p.2 b H' r q c (Post.from h c)
  | err x ρ => exact h
  | stuck => exact h
theorem Post.mono {α β : Type} {R : Hp → β → α → Prop} {o : Out (α × Lc)} {Q Q' : β → Hp → Prop} (h : Post X G O σ H R o Q) (hq : ∀ b H', Q b H' → Q' b H') : Post X G O σ H R o Q' := by
  cases o with
  | ok p => exact fun b H' c r q => hq _ _ (h b H' c r q)
  | err x ρ => exact h
  | stuck => exact h
/-- nothing more is done -/
theorem Post.done {α β : Type} {R : Hp → β → α → Prop} {a : α} {ρ : Lc} {Q : β → Hp → Prop} (h : Post X G O σ H R (.ok (a, ρ)) Q) {b : β} {H' : Hp} (c : Chg (Own O σ) H H') (r : LocR X.K G.A O H' σ ρ) (q : R H' b a) : Q b H' := h b H' c r q
theorem PE.imp {e : Expr} {t t' : TE} (h : PE X e t) (w : ∀ σ H Q, t' σ H Q → t σ H Q) : PE X e t' := ⟨fun pins s σ H Q I q => h.run pins s σ H Q I (w σ H Q q)⟩
theorem PT.imp {e : Expr} {t t' : TT} (h : PT X e t) (w : ∀ σ H Q, t' σ H Q → t σ H Q) : PT X e t' := ⟨fun pins s σ H Q I q => h.run pins s σ H Q I (w σ H Q q)⟩
theorem PW.imp {e : Expr} {t t' : TT} (h : PW X e t) (w : ∀ σ H Q, t' σ H Q → t σ H Q) : PW X e t' := ⟨fun wh pins s σ H Q I q => h.run wh pins s σ H Q I (w σ H Q q)⟩
theorem PA.imp {es : List Expr} {t t' : TA} (h : PA X es t) (w : ∀ σ H Q, t' σ H Q → t σ H Q) : PA X es t' := ⟨fun pos pins s σ H Q I q => h.run pos pins s σ H Q I (w σ H Q q)⟩
theorem PS.imp {st : Stmt} {t t' : TS} (h : PS X st t) (w : ∀ D σ H, t' D σ H → t D σ H) : PS X st t' := ⟨fun pins s σ H D I q => h.run pins s σ H D I (w D σ H q)⟩
theorem PSs.imp {st : List Stmt} {t t' : TS} (h : PSs X st t) (w : ∀ D σ H, t' D σ H → t D σ H) : PSs X st t' := ⟨fun pins s σ H D I q => h.run pins s σ H D I (w D σ H q)⟩
/-! ### values: what an operation does to data -/
def V1 (K : PySem.W.Frag) (r : V → Hp → VK → Prop) (g : D → Option D) : Prop := ∀ (Av : Addr → Prop) (H : Hp) (v : V) (d d' : D) (Q : VK), (∀ a, Av a → H a ≠ none) → Rep K Av H v d → g d = some d' →
  (∀ v' H', Same H H' → Rep K Av H' v' d' → Q v' H') → r v H Q
def V2 (K : PySem.W.Frag) (r : R2) (g : D → D → Option D) : Prop := ∀ (Av : Addr → Prop) (H : Hp) (v w : V) (d e d' : D) (Q : VK), (∀ a, Av a → H a ≠ none) → Rep K Av H v d → Rep K Av H w e → g d e = some d' →
  (∀ v' H', Same H H' → Rep K Av H' v' d' → Q v' H') → r v w H Q
def VN (K : PySem.W.Frag) (r : List V → Hp → VK → Prop) (g : List D → Option D) : Prop := ∀ (Av : Addr → Prop) (H : Hp) (vs : List V) (ds : List D) (d' : D) (Q : VK), (∀ a, Av a → H a ≠ none) → RepAll K Av H vs ds → g ds = some d' →
  (∀ v' H', Same H H' → Rep K Av H' v' d' → Q v' H') → r vs H Q
def put (o : Option D) (ρ : Lc) : Out (D × Lc) := match o with
  | some d => .ok (d, ρ)
  | none => .stuck
def f0 (d : D) : ED := fun ρ => .ok (d, ρ)
def f1 (g : D → Option D) (f : ED) : ED := fun ρ => (f ρ).bind fun p => put (g p.1) p.2
def f2 (g : D → D → Option D) (f k : ED) : ED := fun ρ => (f ρ).bind fun p => (k p.2).bind fun q => put (g p.1 q.1) q.2
def fN (g : List D → Option D) (f : AD) : ED := fun ρ => (f ρ).bind fun p => put (g p.1) p.2
def aNil : AD := fun ρ => .ok ([], ρ)
def aCons (f : ED) (k : AD) : AD := fun ρ => (f ρ).bind fun p => (k p.2).bind fun q => .ok (p.1 :: q.1, q.2)
theorem put_done {d : Option D} {ρ : Lc} {Q : VK} {H : Hp} (h : Post X G O σ H (RE X G O σ) (put d ρ) Q) (r : LocR X.K G.A O H σ ρ) :
    ∃ d', d = some d' ∧ ∀ v' H', Same H H' → Rep X.K (Avd G.A O σ) H' v' d' → Q v' H' := by
  cases d with
  | none => exact h.elim
  | some d' => exact ⟨d', rfl, fun v' H' s q => h v' H' (Chg.of_same s) (r.same s) q⟩
theorem p_bin {op : Operator} {r : R2} {g : D → D → Option D} {a b : Expr} {pos : Pos} {f k : ED} (ho : OpR X (binaryOp op) r) (hv : V2 X.K r g) (ha : PEp X G O a f) (hb : PEp X G O b k) :
    PEp X G O (.BinOp a op b pos) (f2 g f k) := by
  refine PE.imp (pe_op ho ha hb) fun σ H Q h => ?_
  obtain ⟨ρ, lr, h⟩ := h
  refine ⟨ρ, lr, h.step fun d ρ1 v H1 r1 q1 c1 h1 => ⟨ρ1, r1, h1.step fun e ρ2 w H2 r2 q2 c2 h2 => ?_⟩⟩
  obtain ⟨d', e', fin⟩ := put_done h2 r2
  exact hv _ _ _ _ _ _ _ _ r2.avdom (q1.keep (r1.keep c2)) q2 e' fin
theorem p_cmp {op : CmpOp} {r : R2} {g : D → D → Option D} {a b : Expr} {pos : Pos} {f k : ED} (ho : OpR X (compareOp op) r) (hv : V2 X.K r g) (ha : PEp X G O a f) (hb : PEp X G O b k) (hm : behindInMarks op b = false) :
    PEp X G O (.Compare a [op] [b] pos) (f2 g f k) := by
  refine PE.imp (pe_cmpR ho ha hb hm) fun σ H Q h => ?_
  obtain ⟨ρ, lr, h⟩ := h
  refine ⟨ρ, lr, h.step fun d ρ1 v H1 r1 q1 c1 h1 => ⟨ρ1, r1, h1.step fun e ρ2 w H2 r2 q2 c2 h2 => ?_⟩⟩
  obtain ⟨d', e', fin⟩ := put_done h2 r2
  exact hv _ _ _ _ _ _ _ _ r2.avdom (q1.keep (r1.keep c2)) q2 e' fin
theorem p_ix {r : R2} {g : D → D → Option D} {a b : Expr} {pos : Pos} {f k : ED} (ho : IxR X r) (hv : V2 X.K r g) (ha : PEp X G O a f) (hb : PEp X G O b k) (hp : PlainIx b) :
    PEp X G O (.Subscript a b pos) (f2 g f k) := by
  refine PE.imp (pe_ix ho ha hb hp) fun σ H Q h => ?_
  obtain ⟨ρ, lr, h⟩ := h
  refine ⟨ρ, lr, h.step fun d ρ1 v H1 r1 q1 c1 h1 => ⟨ρ1, r1, h1.step fun e ρ2 w H2 r2 q2 c2 h2 => ?_⟩⟩
  obtain ⟨d', e', fin⟩ := put_done h2 r2
  exact hv _ _ _ _ _ _ _ _ r2.avdom (q1.keep (r1.keep c2)) q2 e' fin
theorem p_un {op : UnaryOp} {r : V → Hp → VK → Prop} {g : D → Option D} {a : Expr} {pos : Pos} {f : ED} (ho : UnR X (unaryOp op) r) (hv : V1 X.K r g) (ha : PEp X G O a f) :
    PEp X G O (.UnaryOp op a pos) (f1 g f) := by
  refine PE.imp (pe_un ho ha) fun σ H Q h => ?_
  obtain ⟨ρ, lr, h⟩ := h
  refine ⟨ρ, lr, h.step fun d ρ1 v H1 r1 q1 c1 h1 => ?_⟩
  obtain ⟨d', e', fin⟩ := put_done h1 r1
  exact hv _ _ _ _ _ _ r1.avdom q1 e' fin
/-! ### arguments, built-ins by name -/
theorem p_nil : PAp X G O [] aNil := by
  refine ⟨?_, fun ρ q h => by cases h; rfl⟩
  refine PA.imp pa_nil fun σ H Q h => ?_
  obtain ⟨ρ, lr, h⟩ := h
  exact h [] H Chg.refl lr .nil
theorem p_cons {e : Expr} {es : List Expr} {f : ED} {k : AD} (ha : PEp X G O e f) (hr : PAp X G O es k) (hs : starEach (e :: es) X.env = (false, eval e X.env) :: starEach es X.env := by rfl) : PAp X G O (e :: es) (aCons f k) := by
  refine ⟨?_, fun ρ q h => ?_⟩
  rotate_left
  · unfold aCons at h
    cases e1 : f ρ with
    | ok p =>
      rw [e1] at h
      have h : (k p.2).bind (fun q => Out.ok (p.1 :: q.1, q.2)) = .ok q := h
      cases e2 : k p.2 with
      | ok p2 =>
        rw [e2] at h
        cases h
        show (p.1 :: p2.1).length = _
        rw [List.length_cons, hr.len _ _ e2]
        rfl
      | err x ρ' => rw [e2] at h; cases h
      | stuck => rw [e2] at h; cases h
    | err x ρ' => rw [e1] at h; cases h
    | stuck => rw [e1] at h; cases h
  refine PA.imp (pa_cons ha hr.pa hs) fun σ H Q h => ?_
  obtain ⟨ρ, lr, h⟩ := h
  refine ⟨ρ, lr, h.step fun d ρ1 v H1 r1 q1 c1 h1 => ⟨ρ1, r1, h1.step fun ds ρ2 vs H2 r2 q2 c2 h2 => ?_⟩⟩
  exact h2 (v :: vs) H2 Chg.refl r2 (.cons (q1.keep (r1.keep c2)) q2)
theorem p_callB {x : Str} {p pos : Pos} {e : Expr} {es : List Expr} {id : String} {r : List V → Hp → VK → Prop} {g : List D → Option D} {f : AD} (hc : CallR X (.builtin id) r) (hv : VN X.K r g) (hg : Gl X x) (hm : X.mg x = none) (hb : bootBuiltins x = some (.builtin id))
    (ha : PAp X G O (e :: es) f) (hn : x ≠ "__name__" := by decide) (hdb : (x == ("__debug__" : Str)) = false := by decide)
    (he : starEach (e :: es) X.env = (false, eval e X.env) :: starEach es X.env := by rfl) (hpl : (backTo pos (starEach es X.env)).any (·.1) = false := by rfl) : PEp X G O (.Call (.Name x p) (e :: es) [] pos) (fN g f) := by
  refine PE.imp (pe_callB hc hg hm hb ha.pa hn hdb he hpl) fun σ H Q h => ?_
  obtain ⟨ρ, lr, h⟩ := h
  refine ⟨ρ, lr, h.step fun d ρ1 v H1 r1 q1 c1 h1 => ?_⟩
  obtain ⟨d', e', fin⟩ := put_done h1 r1
  exact hv _ _ _ _ _ _ r1.avdom q1 e' fin
theorem p_callTy {x : Str} {p pos : Pos} {e : Expr} {es : List Expr} {T : String} {r : List V → Hp → VK → Prop} {g : List D → Option D} {f : AD} (hc : CallR X (.type T) r) (hv : VN X.K r g) (hg : Gl X x) (hm : X.mg x = none) (hb : bootBuiltins x = some (.type T))
    (ha : PAp X G O (e :: es) f) (hn : x ≠ "__name__" := by decide) (hdb : (x == ("__debug__" : Str)) = false := by decide)
    (he : starEach (e :: es) X.env = (false, eval e X.env) :: starEach es X.env := by rfl) (hpl : (backTo pos (starEach es X.env)).any (·.1) = false := by rfl) : PEp X G O (.Call (.Name x p) (e :: es) [] pos) (fN g f) := by
  refine PE.imp (pe_callTy hc hg hm hb ha.pa hn hdb he hpl) fun σ H Q h => ?_
  obtain ⟨ρ, lr, h⟩ := h
  refine ⟨ρ, lr, h.step fun d ρ1 v H1 r1 q1 c1 h1 => ?_⟩
  obtain ⟨d', e', fin⟩ := put_done h1 r1
  exact hv _ _ _ _ _ _ r1.avdom q1 e' fin
/-! ### names, constants, displays -/
def fv (i : Nat) : ED := fun ρ => match ρ[i]? with
  | some (some d) => .ok (d, ρ)
  | _ => .stuck
theorem p_var (i : Nat) {x : Str} {pos : Pos} (hO : i ∉ O := by decide) (hN : X.N[i]? = some x := by rfl) (hv : Vis X.env.scope x := by first | exact Or.inl rfl | exact Or.inr (Or.inl rfl) | exact Or.inr (Or.inr rfl)) (hd : (x == ("__debug__" : Str)) = false := by decide)
    (hcd : (x == ("__classdict__" : Str)) = false := by decide) : PEp X G O (.Name x pos) (fv i) := by
  refine PE.imp (pe_var (i := i) hN hv hd hcd) fun σ H Q h => ?_
  obtain ⟨ρ, lr, h⟩ := h
  unfold fv at h
  split at h
  · rename_i d e
    obtain ⟨v, e1, q⟩ := lr.rep i d hO e
    exact ⟨v, e1, h v H Chg.refl lr q⟩
  · exact h.elim
theorem p_const {e : Expr} {v : V} {d : D} (h : PE X e (tC v)) (hr : ∀ Av H, Rep X.K Av H v d) : PEp X G O e (f0 d) := by
  refine PE.imp h fun σ H Q h => ?_
  obtain ⟨ρ, lr, h⟩ := h
  exact h v H Chg.refl lr (hr _ _)
theorem p_int {i : Int} {j pos} : PEp X G O (.Constant (.int i) j pos) (f0 (.int i)) := p_const pe_int fun _ _ => .int i
theorem p_bl {b j pos} : PEp X G O (.Constant (.bool b) j pos) (f0 (.bl b)) := p_const pe_bl fun _ _ => .bl b
theorem p_non {j pos} : PEp X G O (.Constant .none j pos) (f0 .non) := p_const pe_non fun _ _ => .non
theorem p_str {x : Str} {j pos} : PEp X G O (.Constant (.str x) j pos) (f0 (.str x)) := p_const pe_str fun _ _ => .str x
/-- a constant of the module -/
structure Kd (K : PySem.W.Frag) (mg : Str → Option Value) (x : Str) (d : D) : Prop where
  ex : ∃ u v, mg x = some u ∧ RelV v u ∧ ∀ Av H, Rep K Av H v d
theorem p_glob {x : Str} {pos : Pos} {d : D} (k : Kd X.K X.mg x d) (hg : Gl X x := by rfl) (hd : (x == ("__debug__" : Str)) = false := by decide) : PEp X G O (.Name x pos) (f0 d) := by
  obtain ⟨u, v, hm, r, q⟩ := k.ex
  exact p_const (pe_glob hg hm r hd) q
def lnOk (n : Nat) : Bool := decide (n ≤ sizeLine)
def gTup : List D → Option D := fun ds => if lnOk ds.length then some (.tup ds) else none
def gLst : List D → Option D := fun ds => if lnOk ds.length then some (.lst ds) else none
theorem new_tup {K : PySem.W.Frag} {Av : Addr → Prop} {H : Hp} {xs : List V} {ds : List D} (r : RepAll K Av H xs ds) {p : Addr} (hp : H p = none) : Rep K Av (upd H p (.tup xs)) (.ref p) (.tup ds) :=
  .tup (SqT.of upd_same) (r.same (same_new hp))
theorem new_lst {K : PySem.W.Frag} {Av : Addr → Prop} {H : Hp} {xs : List V} {ds : List D} (r : RepAll K Av H xs ds) (dom : ∀ a, Av a → H a ≠ none) {p : Addr} (hp : H p = none) : Rep K Av (upd H p (.lst xs)) (.ref p) (.lst ds) :=
  .lst upd_same (fun z => dom p z hp) (r.same (same_new hp))
theorem p_tup {es : List Expr} {x1 pos} {f : AD} (ha : PAp X G O es f) : PEp X G O (.Tuple es x1 pos) (fN gTup f) := by
  refine PE.imp (pe_tup ha.pa) fun σ H Q h => ?_
  obtain ⟨ρ, lr, h⟩ := h
  refine ⟨ρ, lr, h.step fun ds ρ1 vs H1 r1 q1 c1 h1 => ?_⟩
  obtain ⟨d', e', fin⟩ := put_done h1 r1
  dsimp only [gTup] at e'
  split at e'
  · rename_i hz
    cases e'
    refine ⟨by rw [q1.length]; exact of_decide_eq_true hz, fun p hp => fin _ _ (same_new hp) (new_tup q1 hp)⟩
  · cases e'
theorem p_lst {es : List Expr} {pos} {f : AD} (ha : PAp X G O es f) : PEp X G O (.List es pos) (fN gLst f) := by
  refine PE.imp (pe_lst ha.pa) fun σ H Q h => ?_
  obtain ⟨ρ, lr, h⟩ := h
  refine ⟨ρ, lr, h.step fun ds ρ1 vs H1 r1 q1 c1 h1 => ?_⟩
  obtain ⟨d', e', fin⟩ := put_done h1 r1
  dsimp only [gLst] at e'
  split at e'
  · rename_i hz
    cases e'
    refine ⟨by rw [q1.length]; exact of_decide_eq_true hz, fun p hp => fin _ _ (same_new hp) (new_lst q1 r1.avdom hp)⟩
  · cases e'
/-! ### tests -/
def tV (f : ED) : TD := fun ρ => (f ρ).bind fun p => match p.1 with
  | .bl b => .ok (b, p.2)
  | _ => .stuck
def eT (f : TD) : ED := fun ρ => (f ρ).bind fun p => .ok (.bl p.1, p.2)
def tNt (f : TD) : TD := fun ρ => (f ρ).bind fun p => .ok (!p.1, p.2)
def tAn (f k : TD) : TD := fun ρ => (f ρ).bind fun p => if p.1 = true then k p.2 else .ok (false, p.2)
def tOr' (f k : TD) : TD := fun ρ => (f ρ).bind fun p => if p.1 = true then .ok (true, p.2) else k p.2
def fIf (c : TD) (f k : ED) : ED := fun ρ => (c ρ).bind fun p => if p.1 = true then f p.2 else k p.2
theorem Rep.bl_inv {K : PySem.W.Frag} {Av : Addr → Prop} {H : Hp} {v : V} {b : Bool} (r : Rep K Av H v (.bl b)) : v = .bl b := by cases r; rfl
theorem tV_done {f : D × Lc} {Q : Bool → Hp → Prop} {v : V} (h : Post X G O σ H (RT σ) (match f.1 with | .bl b => Out.ok (b, f.2) | _ => .stuck) Q) (r : LocR X.K G.A O H σ f.2) (q : Rep X.K (Avd G.A O σ) H v f.1) : ∃ c, v = .bl c ∧ Q c H := by
  obtain ⟨d, ρ⟩ := f
  cases d with
  | bl b => exact ⟨b, q.bl_inv, h b H Chg.refl r rfl⟩
  | _ => exact h.elim
theorem q_val {e : Expr} {f : ED} (ha : PEp X G O e f) (he : ∀ whole, isTrue e X.env whole = (do let v ← whole; standAt e.pos; holding [v] (truthy v)) := by intro _; rfl) : PTp X G O e (tV f) := by
  refine PT.imp (pt_val ha he) fun σ H Q h => ?_
  obtain ⟨ρ, lr, h⟩ := h
  exact ⟨ρ, lr, h.step fun d ρ1 v H1 r1 q1 c1 h1 => tV_done h1 r1 q1⟩
theorem q_cmp {op : CmpOp} {r : R2} {g : D → D → Option D} {a b : Expr} {pos : Pos} {f k : ED} (ho : OpR X (compareOp op) r) (hv : V2 X.K r g) (ha : PEp X G O a f) (hb : PEp X G O b k) (hm : behindInMarks op b = false) :
    PTp X G O (.Compare a [op] [b] pos) (tV (f2 g f k)) := by
  refine PT.imp (pt_cmpR ho ha hb hm) fun σ H Q h => ?_
  obtain ⟨ρ, lr, h⟩ := h
  refine ⟨ρ, lr, ?_⟩
  have h' : Post X G O σ H (RT σ) ((f ρ).bind fun p => ((k p.2).bind fun q => put (g p.1 q.1) q.2).bind fun p => match p.1 with | .bl b => Out.ok (b, p.2) | _ => .stuck) Q := by
    have e : (tV (f2 g f k)) ρ = ((f ρ).bind fun p => ((k p.2).bind fun q => put (g p.1 q.1) q.2).bind fun p => match p.1 with | .bl b => Out.ok (b, p.2) | _ => .stuck) := by
      unfold tV f2
      cases f ρ <;> rfl
    rw [← e]; exact h
  refine h'.step fun d ρ1 v H1 r1 q1 c1 h1 => ⟨ρ1, r1, ?_⟩
  have h1' : Post X G O σ H1 (RT σ) ((k ρ1).bind fun q => (put (g d q.1) q.2).bind fun p => match p.1 with | .bl b => Out.ok (b, p.2) | _ => .stuck) Q := by
    have e : ((k ρ1).bind fun q => put (g d q.1) q.2).bind (fun p => match p.1 with | .bl b => Out.ok (b, p.2) | _ => .stuck) = ((k ρ1).bind fun q => (put (g d q.1) q.2).bind fun p => match p.1 with | .bl b => Out.ok (b, p.2) | _ => .stuck) := by
      cases k ρ1 <;> rfl
    rw [← e]; exact h1
  refine h1'.step fun e ρ2 w H2 r2 q2 c2 h2 => ?_
  obtain ⟨d', ed, fin⟩ := put_done (d := g d e) (ρ := ρ2) (Q := fun x H' => ∃ c, x = .bl c ∧ Q c H') (by
    refine h2.step fun d3 ρ3 v3 H3 r3 q3 c3 h3 => tV_done h3 r3 q3) r2
  exact hv _ _ _ _ _ _ _ _ r2.avdom (q1.keep (r1.keep c2)) q2 ed fin
theorem q_not {a : Expr} {pos : Pos} {f : TD} (ha : PTp X G O a f) : PTp X G O (.UnaryOp .Not a pos) (tNt f) := by
  refine PT.imp (pt_not ha) fun σ H Q h => ?_
  obtain ⟨ρ, lr, h⟩ := h
  refine ⟨ρ, lr, h.step fun d ρ1 v H1 r1 q1 c1 h1 => ?_⟩
  subst q1
  exact h1 _ H1 Chg.refl r1 rfl
theorem w_and1 {a : Expr} {pos : Pos} {f : TD} (ha : PTp X G O a f) : PWp X G O (.BoolOp .And [a] pos) f := pw_and1 ha
theorem w_or1 {a : Expr} {pos : Pos} {f : TD} (ha : PTp X G O a f) : PWp X G O (.BoolOp .Or [a] pos) f := pw_or1 ha
theorem w_and {a b : Expr} {rest : List Expr} {pos : Pos} {f k : TD} (ha : PTp X G O a f) (hb : PWp X G O (.BoolOp .And (b :: rest) pos) k) : PWp X G O (.BoolOp .And (a :: b :: rest) pos) (tAn f k) := by
  refine PW.imp (pw_and ha hb) fun σ H Q h => ?_
  obtain ⟨ρ, lr, h⟩ := h
  refine ⟨ρ, lr, h.step fun d ρ1 v H1 r1 q1 c1 h1 => ?_⟩
  subst q1
  cases v with
  | true => exact ⟨ρ1, r1, h1⟩
  | false => exact h1 _ H1 Chg.refl r1 rfl
theorem w_or {a b : Expr} {rest : List Expr} {pos : Pos} {f k : TD} (ha : PTp X G O a f) (hb : PWp X G O (.BoolOp .Or (b :: rest) pos) k) : PWp X G O (.BoolOp .Or (a :: b :: rest) pos) (tOr' f k) := by
  refine PW.imp (pw_or ha hb) fun σ H Q h => ?_
  obtain ⟨ρ, lr, h⟩ := h
  refine ⟨ρ, lr, h.step fun d ρ1 v H1 r1 q1 c1 h1 => ?_⟩
  subst q1
  cases v with
  | false => exact ⟨ρ1, r1, h1⟩
  | true => exact h1 _ H1 Chg.refl r1 rfl
theorem w_pt {e : Expr} {f : TD} (h : PWp X G O e f) : PTp X G O e f := PW.pt h
def eAn (f k : ED) : ED := fun ρ => (f ρ).bind fun p => match p.1 with
  | .bl true => k p.2
  | .bl false => .ok (.bl false, p.2)
  | _ => .stuck
def eOr (f k : ED) : ED := fun ρ => (f ρ).bind fun p => match p.1 with
  | .bl false => k p.2
  | .bl true => .ok (.bl true, p.2)
  | _ => .stuck
def eNt : D → Option D
  | .bl b => some (.bl (!b))
  | _ => none
theorem p_one {op} {a : Expr} {pos : Pos} {f : ED} (ha : PEp X G O a f) : PEp X G O (.BoolOp op [a] pos) f := pe_one ha
theorem p_and {a b : Expr} {rest : List Expr} {pos : Pos} {f k : ED} (ha : PEp X G O a f) (hb : PEp X G O (.BoolOp .And (b :: rest) pos) k) : PEp X G O (.BoolOp .And (a :: b :: rest) pos) (eAn f k) := by
  refine PE.imp (pe_and ha hb) fun σ H Q h => ?_
  obtain ⟨ρ, lr, h⟩ := h
  refine ⟨ρ, lr, h.step fun d ρ1 v H1 r1 q1 c1 h1 => ?_⟩
  cases d with
  | bl c =>
    have e := q1.bl_inv
    subst e
    refine ⟨c, rfl, ?_⟩
    cases c with
    | true => exact ⟨ρ1, r1, h1⟩
    | false => exact h1 _ H1 Chg.refl r1 (.bl false)
  | _ => exact h1.elim
theorem p_or {a b : Expr} {rest : List Expr} {pos : Pos} {f k : ED} (ha : PEp X G O a f) (hb : PEp X G O (.BoolOp .Or (b :: rest) pos) k) : PEp X G O (.BoolOp .Or (a :: b :: rest) pos) (eOr f k) := by
  refine PE.imp (pe_or ha hb) fun σ H Q h => ?_
  obtain ⟨ρ, lr, h⟩ := h
  refine ⟨ρ, lr, h.step fun d ρ1 v H1 r1 q1 c1 h1 => ?_⟩
  cases d with
  | bl c =>
    have e := q1.bl_inv
    subst e
    refine ⟨c, rfl, ?_⟩
    cases c with
    | false => exact ⟨ρ1, r1, h1⟩
    | true => exact h1 _ H1 Chg.refl r1 (.bl true)
  | _ => exact h1.elim
theorem p_not {a : Expr} {pos : Pos} {f : ED} (ha : PEp X G O a f) : PEp X G O (.UnaryOp .Not a pos) (f1 eNt f) := by
  refine PE.imp (pe_not ha) fun σ H Q h => ?_
  obtain ⟨ρ, lr, h⟩ := h
  refine ⟨ρ, lr, h.step fun d ρ1 v H1 r1 q1 c1 h1 => ?_⟩
  cases d with
  | bl c =>
    have e := q1.bl_inv
    subst e
    exact ⟨c, rfl, h1 _ H1 Chg.refl r1 (.bl _)⟩
  | _ => exact h1.elim
theorem p_ifx {c a b : Expr} {pos : Pos} {t : TD} {f k : ED} (hc : PTp X G O c t) (ha : PEp X G O a f) (hb : PEp X G O b k) : PEp X G O (.IfExp c a b pos) (fIf t f k) := by
  refine PE.imp (pe_ifExp hc ha hb) fun σ H Q h => ?_
  obtain ⟨ρ, lr, h⟩ := h
  refine ⟨ρ, lr, h.step fun d ρ1 v H1 r1 q1 c1 h1 => ?_⟩
  subst q1
  cases v with
  | true => exact ⟨ρ1, r1, h1⟩
  | false => exact ⟨ρ1, r1, h1⟩
end
end Pl
set_option maxHeartbeats 4000000
namespace Pl
open PySem PySem.Spec L2
/-! ### what the built-in operations do to data -/
section
variable {X : Cx} {K : PySem.W.Frag}
theorem Rep.int_inv {Av : Addr → Prop} {H : Hp} {v : V} {i : Int} (r : Rep K Av H v (.int i)) : v = .int i := by cases r; rfl
theorem Rep.str_inv {Av : Addr → Prop} {H : Hp} {v : V} {i : Str} (r : Rep K Av H v (.str i)) : v = .str i := by cases r; rfl
theorem Rep.ty_inv {Av : Addr → Prop} {H : Hp} {v : V} {i : String} (r : Rep K Av H v (.ty i)) : v = .ty i := by cases r; rfl
theorem Rep.non_inv {Av : Addr → Prop} {H : Hp} {v : V} (r : Rep K Av H v .non) : v = .non := by cases r; rfl
theorem Rep.tup_inv {Av : Addr → Prop} {H : Hp} {v : V} {ds : List D} (r : Rep K Av H v (.tup ds)) : ∃ a xs, v = .ref a ∧ SqT K H a xs ∧ RepAll K Av H xs ds := by
  cases r with | tup h q => exact ⟨_, _, rfl, h, q⟩
theorem Rep.lst_inv {Av : Addr → Prop} {H : Hp} {v : V} {ds : List D} (r : Rep K Av H v (.lst ds)) : ∃ a xs, v = .ref a ∧ H a = some (.lst xs) ∧ ¬ Av a ∧ RepAll K Av H xs ds := by
  cases r with | lst h n q => exact ⟨_, _, rfl, h, n, q⟩
theorem Rep.fl_inv {Av : Addr → Prop} {H : Hp} {v : V} {ds : List D} (r : Rep K Av H v (.fl ds)) : ∃ a xs, v = .ref a ∧ SqF K H a xs ∧ RepAll K Av H xs ds := by
  cases r with | fl h q => exact ⟨_, _, rfl, h, q⟩
theorem Rep.dct_inv {Av : Addr → Prop} {H : Hp} {v : V} {ds : List (Key × D)} (r : Rep K Av H v (.dct ds)) : ∃ a xs, v = .ref a ∧ H a = some (.dK xs) ∧ ¬ Av a ∧ RepKV K Av H xs ds := by
  cases r with | dct h n q => exact ⟨_, _, rfl, h, n, q⟩
/-! #### + -/
def gAdd : D → D → Option D
  | .int i, .int j => some (.int (i + j))
  | .str a, .str b => if lnOk (a.length + b.length) then some (.str (a ++ b)) else none
  | .tup a, .tup b => if lnOk (a.length + b.length) then some (.tup (a ++ b)) else none
  | .lst a, .lst b => if lnOk (a.length + b.length) then some (.lst (a ++ b)) else none
  | _, _ => none
def rPlus (K : PySem.W.Frag) : R2 := fun x y H Q => rI0 (fun i j => .int (i + j)) x y H Q ∨ (fun x y H Q => (∃ i j, x = .str i ∧ y = .str j ∧ i.length + j.length ≤ sizeLine ∧ Q (.str (i ++ j)) H) ∨ (fun x y H Q => rCatA K x y H Q ∨ rCat x y H Q) x y H Q) x y H Q
theorem op_plus : OpR X (binaryOp .Add) (rPlus X.K) := op_add.or (op_add_str.or (op_catA.or op_cat))
theorem v_plus : V2 K (rPlus K) gAdd := by
  intro Av H v w d e d' Q dom r q h fin
  cases d with
  | int i =>
    cases e with
    | int j =>
      cases h
      exact .inl ⟨i, j, r.int_inv, q.int_inv, fin _ _ (Same.refl H) (.int _)⟩
    | _ => cases h
  | str i =>
    cases e with
    | str j =>
      dsimp only [gAdd] at h
      split at h
      · rename_i hz
        cases h
        exact .inr (.inl ⟨i, j, r.str_inv, q.str_inv, of_decide_eq_true hz, fin _ _ (Same.refl H) (.str _)⟩)
      · cases h
    | _ => cases h
  | tup i =>
    cases e with
    | tup j =>
      dsimp only [gAdd] at h
      split at h
      · rename_i hz
        cases h
        obtain ⟨a, xs, rfl, ha, ra⟩ := r.tup_inv
        obtain ⟨b, ys, rfl, hb, rb⟩ := q.tup_inv
        refine .inr (.inr (.inl ⟨a, b, xs, ys, rfl, rfl, ha, hb, by rw [ra.length, rb.length]; exact of_decide_eq_true hz, fun e => ?_, fun n e => ?_, fun _ _ p hp => ?_⟩))
        · subst e
          have : i = [] := by cases ra; rfl
          subst this
          exact fin _ _ (Same.refl H) (.tup hb rb)
        · subst e
          have : j = [] := by cases rb; rfl
          subst this
          rw [List.append_nil] at fin
          exact fin _ _ (Same.refl H) (.tup ha ra)
        · exact fin _ _ (same_new hp) (new_tup (ra.append rb) hp)
      · cases h
    | _ => cases h
  | lst i =>
    cases e with
    | lst j =>
      dsimp only [gAdd] at h
      split at h
      · rename_i hz
        cases h
        obtain ⟨a, xs, rfl, ha, na, ra⟩ := r.lst_inv
        obtain ⟨b, ys, rfl, hb, nb, rb⟩ := q.lst_inv
        refine .inr (.inr (.inr ⟨a, b, xs, ys, rfl, rfl, ha, hb, by rw [ra.length, rb.length]; exact of_decide_eq_true hz, fun p hp => ?_⟩))
        exact fin _ _ (same_new hp) (new_lst (ra.append rb) dom hp)
      · cases h
    | _ => cases h
  | _ => cases h
/-! #### numbers -/
def gSub : D → D → Option D
  | .int i, .int j => some (.int (i - j))
  | _, _ => none
theorem v_sub : V2 K (rI0 fun i j => .int (i - j)) gSub := by
  intro Av H v w d e d' Q dom r q h fin
  cases d with
  | int i =>
    cases e with
    | int j =>
      cases h
      exact ⟨i, j, r.int_inv, q.int_inv, fin _ _ (Same.refl H) (.int _)⟩
    | _ => cases h
  | _ => cases h
/-- a product of two numbers is made where one of them is small, or both together are no million bits -/
def mulOk (i j : Int) : Bool := decide (-(2 ^ 64) < i ∧ i < 2 ^ 64) || decide (-(2 ^ 64) < j ∧ j < 2 ^ 64) || decide (i.natAbs.log2 + j.natAbs.log2 < 1000000)
def gMul : D → D → Option D
  | .int i, .int j => if mulOk i j then some (.int (i * j)) else none
  | .tup ds, .int k => if 2 ≤ k ∧ k ≤ 1000 ∧ ds.length ≤ 1000 ∧ ds ≠ [] then some (.tup (List.replicate k.toNat ds).flatten) else none
  | .lst ds, .int k => if 0 ≤ k ∧ k ≤ 1000 ∧ ds.length ≤ 1000 then some (.lst (List.replicate k.toNat ds).flatten) else none
  | _, _ => none
def rTimes (K : PySem.W.Frag) : R2 := fun x y H Q => rI CMul (fun i j => .int (i * j)) x y H Q ∨ (fun x y H Q => rI CMulW (fun i j => .int (i * j)) x y H Q ∨ (fun x y H Q => rRepT K x y H Q ∨ rRep x y H Q) x y H Q) x y H Q
theorem op_times : OpR X (binaryOp .Mult) (rTimes X.K) := op_mul.or (op_mulW.or (op_repT.or op_rep))
theorem RepAll.rep {Av : Addr → Prop} {H : Hp} {xs : List V} {ds : List D} (r : RepAll K Av H xs ds) : ∀ k : Nat, RepAll K Av H (List.replicate k xs).flatten (List.replicate k ds).flatten
  | 0 => .nil
  | k + 1 => by
    rw [List.replicate_succ, List.replicate_succ, List.flatten_cons, List.flatten_cons]
    exact r.append (RepAll.rep r k)
theorem v_times : V2 K (rTimes K) gMul := by
  intro Av H v w d e d' Q dom r q h fin
  cases e with
  | int j =>
    cases d with
    | int i =>
      dsimp only [gMul] at h
      split at h
      · rename_i hz
        cases h
        have e1 := r.int_inv
        have e2 := q.int_inv
        unfold mulOk at hz
        simp only [Bool.or_eq_true, decide_eq_true_eq] at hz
        rcases hz with (hz | hz) | hz
        · exact .inl ⟨i, j, e1, e2, .inl hz, fin _ _ (Same.refl H) (.int _)⟩
        · exact .inl ⟨i, j, e1, e2, .inr hz, fin _ _ (Same.refl H) (.int _)⟩
        · exact .inr (.inl ⟨i, j, e1, e2, hz, fin _ _ (Same.refl H) (.int _)⟩)
      · cases h
    | tup ds =>
      dsimp only [gMul] at h
      split at h
      · rename_i hz
        cases h
        obtain ⟨a, xs, rfl, ha, ra⟩ := r.tup_inv
        obtain ⟨h1, h2, h3, h4⟩ := hz
        refine .inr (.inr (.inl ⟨a, j, xs, rfl, q.int_inv, ha, ?_, h1, h2, by rw [ra.length]; exact h3, fun p hp => fin _ _ (same_new hp) (new_tup (ra.rep _) hp)⟩))
        intro e
        subst e
        cases ra
        exact h4 rfl
      · cases h
    | lst ds =>
      dsimp only [gMul] at h
      split at h
      · rename_i hz
        cases h
        obtain ⟨a, xs, rfl, ha, na, ra⟩ := r.lst_inv
        obtain ⟨h1, h2, h3⟩ := hz
        refine .inr (.inr (.inr ⟨a, j, xs, rfl, q.int_inv, ha, by omega, by omega, ?_, fun p hp => fin _ _ (same_new hp) (new_lst (ra.rep _) dom hp)⟩))
        rw [ra.length]
        have a1 : ds.length * j.toNat ≤ 1000 * 1000 := Nat.mul_le_mul h3 (by omega)
        rw [sizeLine_eq]
        omega
      · cases h
    | _ => cases h
  | _ => cases d <;> cases h
def divOk (j : Int) : Bool := decide (0 < j) && decide (j < 1073741824)
def gDiv : D → D → Option D
  | .int i, .int j => if divOk j || (decide (0 < j) && decide (j.natAbs.log2 < 9000)) then some (.int (i / j)) else none
  | _, _ => none
def rDiv : R2 := fun x y H Q => rI CDiv (fun i j => .int (i / j)) x y H Q ∨ rI CDivW (fun i j => .int (i / j)) x y H Q
theorem op_div : OpR X (binaryOp .FloorDiv) rDiv := op_fdiv.or op_fdivW
theorem v_div : V2 K rDiv gDiv := by
  intro Av H v w d e d' Q dom r q h fin
  cases d with
  | int i =>
    cases e with
    | int j =>
      dsimp only [gDiv] at h
      split at h
      · rename_i hz
        cases h
        unfold divOk at hz
        simp only [Bool.or_eq_true, Bool.and_eq_true, decide_eq_true_eq] at hz
        rcases hz with hz | hz
        · exact .inl ⟨i, j, r.int_inv, q.int_inv, hz, fin _ _ (Same.refl H) (.int _)⟩
        · exact .inr ⟨i, j, r.int_inv, q.int_inv, hz, fin _ _ (Same.refl H) (.int _)⟩
      · cases h
    | _ => cases h
  | _ => cases h
def gMod : D → D → Option D
  | .int i, .int j => if 0 < j then some (.int (i % j)) else none
  | _, _ => none
theorem v_mod : V2 K (rI (fun _ j => 0 < j) fun i j => .int (i % j)) gMod := by
  intro Av H v w d e d' Q dom r q h fin
  cases d with
  | int i =>
    cases e with
    | int j =>
      dsimp only [gMod] at h
      split at h
      · rename_i hz
        cases h
        exact ⟨i, j, r.int_inv, q.int_inv, hz, fin _ _ (Same.refl H) (.int _)⟩
      · cases h
    | _ => cases h
  | _ => cases h
def gPow : D → D → Option D
  | .int i, .int j => if 0 ≤ j ∧ j ≤ 1000000 ∧ i.natAbs < 2 ^ 64 then some (.int (i ^ j.toNat)) else none
  | _, _ => none
theorem v_pow : V2 K (rI CPow fun i j => .int (i ^ j.toNat)) gPow := by
  intro Av H v w d e d' Q dom r q h fin
  cases d with
  | int i =>
    cases e with
    | int j =>
      dsimp only [gPow] at h
      split at h
      · rename_i hz
        cases h
        exact ⟨i, j, r.int_inv, q.int_inv, hz, fin _ _ (Same.refl H) (.int _)⟩
      · cases h
    | _ => cases h
  | _ => cases h
def gNeg : D → Option D
  | .int i => some (.int (-i))
  | _ => none
theorem v_neg : V1 K (rU fun i => .int (-i)) gNeg := by
  intro Av H v d d' Q dom r h fin
  cases d with
  | int i =>
    cases h
    exact ⟨i, r.int_inv, fin _ _ (Same.refl H) (.int _)⟩
  | _ => cases h
/-- < and its kin, of whole numbers -/
def gCmp (p : Int → Int → Bool) : D → D → Option D
  | .int i, .int j => some (.bl (p i j))
  | _, _ => none
theorem v_cmp (p : Int → Int → Bool) : V2 K (rI0 fun i j => .bl (p i j)) (gCmp p) := by
  intro Av H v w d e d' Q dom r q h fin
  cases d with
  | int i =>
    cases e with
    | int j =>
      cases h
      exact ⟨i, j, r.int_inv, q.int_inv, fin _ _ (Same.refl H) (.bl _)⟩
    | _ => cases h
  | _ => cases h
abbrev gLt := gCmp fun i j => decide (i < j)
abbrev gLe := gCmp fun i j => decide (i ≤ j)
abbrev gGt := gCmp fun i j => decide (j < i)
abbrev gGe := gCmp fun i j => decide (j ≤ i)
/-! #### ==, in -/
mutual
def toPy : D → PyData
  | .non => .none
  | .bl b => .bool b
  | .int i => .int i
  | .str s => .str s
  | .tup ds => .tuple (toPyAll ds)
  | .lst ds => .list (toPyAll ds)
  | .fl ds => .list (toPyAll ds)
  | .dct _ => .dict []
  | .ty _ => .dict []
def toPyAll : List D → List PyData
  | [] => []
  | d :: ds => toPy d :: toPyAll ds
end
mutual
/-- no dict, no type within -/
def flat : D → Bool
  | .tup ds => flatAll ds
  | .lst ds => flatAll ds
  | .fl ds => flatAll ds
  | .dct _ => false
  | .ty _ => false
  | .non => true
  | .bl _ => true
  | .int _ => true
  | .str _ => true
def flatAll : List D → Bool
  | [] => true
  | d :: ds => flat d && flatAll ds
end
mutual
theorem Rep.dp {Av : Addr → Prop} {H : Hp} : ∀ {d : D} {v : V}, Rep K Av H v d → flat d = true → Dp K H v (toPy d)
  | .non, _, .non, _ => .non
  | .bl _, _, .bl b, _ => .bl b
  | .int _, _, .int i, _ => .int i
  | .str _, _, .str s, _ => .str s
  | .tup _, _, .tup h r, f => .tup h (RepAll.dp r f)
  | .lst _, _, .lst h n r, f => .lst (SqL.of h) (RepAll.dp r f)
  | .fl _, _, .fl h r, f => .lst h.sq (RepAll.dp r f)
  | .dct _, _, _, f => by cases f
  | .ty _, _, _, f => by cases f
theorem RepAll.dp {Av : Addr → Prop} {H : Hp} : ∀ {ds : List D} {vs : List V}, RepAll K Av H vs ds → flatAll ds = true → DpAll K H vs (toPyAll ds)
  | [], _, .nil, _ => .nil
  | d :: ds, _, .cons h t, f => by
    have f' : (flat d && flatAll ds) = true := f
    rw [Bool.and_eq_true] at f'
    exact .cons (Rep.dp h f'.1) (RepAll.dp t f'.2)
end
def cmpOk (d : D) : Bool := flat d && SeqAt.shaped (toPy d)
def gEq : D → D → Option D := fun d e => if cmpOk d && cmpOk e then some (.bl (PyData.eqv (toPy d) (toPy e))) else none
def gNe : D → D → Option D := fun d e => if cmpOk d && cmpOk e then some (.bl (!PyData.eqv (toPy d) (toPy e))) else none
theorem v_eq : V2 K (rEqD K) gEq := by
  intro Av H v w d e d' Q dom r q h fin
  dsimp only [gEq] at h
  split at h
  · rename_i hz
    cases h
    rw [Bool.and_eq_true] at hz
    obtain ⟨h1, h2⟩ := hz
    unfold cmpOk at h1 h2
    rw [Bool.and_eq_true] at h1 h2
    exact ⟨_, _, r.dp h1.1, q.dp h2.1, h1.2, h2.2, fin _ _ (Same.refl H) (.bl _)⟩
  · cases h
theorem v_ne : V2 K (rNeD K) gNe := by
  intro Av H v w d e d' Q dom r q h fin
  dsimp only [gNe] at h
  split at h
  · rename_i hz
    cases h
    rw [Bool.and_eq_true] at hz
    obtain ⟨h1, h2⟩ := hz
    unfold cmpOk at h1 h2
    rw [Bool.and_eq_true] at h1 h2
    exact ⟨_, _, r.dp h1.1, q.dp h2.1, h1.2, h2.2, fin _ _ (Same.refl H) (.bl _)⟩
  · cases h
/-- a scalar -/
def scD : D → Bool
  | .non => true
  | .bl _ => true
  | .int _ => true
  | .str _ => true
  | _ => false
def eqS : D → D → Bool
  | .non, .non => true
  | .bl a, .bl b => a == b
  | .bl a, .int b => (if a then 1 else 0) == b
  | .int a, .bl b => a == (if b then 1 else 0)
  | .int a, .int b => a == b
  | .str a, .str b => a == b
  | _, _ => false
def vOf : D → V
  | .non => .non
  | .bl b => .bl b
  | .int i => .int i
  | .str s => .str s
  | _ => .non
theorem Rep.sc {Av : Addr → Prop} {H : Hp} {v : V} {d : D} (r : Rep K Av H v d) (h : scD d = true) : v = vOf d := by
  cases r <;> first | rfl | cases h
theorem flat_vOf {d : D} (h : scD d = true) : flatV (vOf d) = true := by cases d <;> first | (cases h; done) | rfl
theorem eqV_vOf {d e : D} (h : scD d = true) (q : scD e = true) : eqV (vOf d) (vOf e) = eqS d e := by
  cases d <;> cases e <;> first | (cases h; done) | (cases q; done) | rfl
theorem RepAll.sc {Av : Addr → Prop} {H : Hp} : ∀ {vs : List V} {ds : List D}, RepAll K Av H vs ds → ds.all scD = true → vs = ds.map vOf
  | _, [], .nil, _ => rfl
  | _, d :: ds, .cons h t, q => by
    rw [List.all_cons, Bool.and_eq_true] at q
    rw [List.map_cons, h.sc q.1, RepAll.sc t q.2]
def gIn (neg : Bool) : D → D → Option D := fun x s => match s with
  | .tup ds => if scD x && ds.all scD then some (.bl (if neg then !ds.any (fun y => eqS y x) else ds.any fun y => eqS y x)) else none
  | .lst ds => if scD x && ds.all scD then some (.bl (if neg then !ds.any (fun y => eqS y x) else ds.any fun y => eqS y x)) else none
  | _ => none
theorem any_map {x : D} (hx : scD x = true) : ∀ {ds : List D}, ds.all scD = true → inV (vOf x) (ds.map vOf) = ds.any fun y => eqS y x
  | [], _ => rfl
  | d :: ds, h => by
    rw [List.all_cons, Bool.and_eq_true] at h
    have e := any_map hx h.2
    unfold inV at e ⊢
    rw [List.map_cons, List.any_cons, List.any_cons, e, eqV_vOf h.1 hx]
theorem all_map {ds : List D} (h : ds.all scD = true) : (ds.map vOf).all flatV = true := by
  rw [List.all_eq_true] at h ⊢
  intro v hv
  obtain ⟨d, hd, rfl⟩ := List.mem_map.mp hv
  exact flat_vOf (h d hd)
theorem v_in (neg : Bool) : V2 K (rIn K neg) (gIn neg) := by
  intro Av H v w d e d' Q dom r q h fin
  have key : ∀ {xs : List V} {ds : List D} {p : Addr}, RepAll K Av H xs ds → (SqL K H p xs ∨ SqT K H p xs) → w = .ref p → scD d = true → ds.all scD = true →
      d' = .bl (if neg then !ds.any (fun y => eqS y d) else ds.any fun y => eqS y d) → rIn K neg v w H Q := by
    intro xs ds p ra hs hw h1 h2 e'
    subst hw e'
    have e1 := r.sc h1
    have e2 := ra.sc h2
    subst e1 e2
    refine ⟨p, _, rfl, hs, flat_vOf h1, all_map h2, ?_⟩
    rw [any_map h1 h2]
    exact fin _ _ (Same.refl H) (.bl _)
  cases e with
  | tup ds =>
    dsimp only [gIn] at h
    split at h
    · rename_i hz
      rw [Bool.and_eq_true] at hz
      obtain ⟨p, xs, ew, hs, ra⟩ := q.tup_inv
      exact key ra (.inr hs) ew hz.1 hz.2 (Option.some.inj h).symm
    · cases h
  | lst ds =>
    dsimp only [gIn] at h
    split at h
    · rename_i hz
      rw [Bool.and_eq_true] at hz
      obtain ⟨p, xs, ew, hs, _, ra⟩ := q.lst_inv
      exact key ra (.inl (SqL.of hs)) ew hz.1 hz.2 (Option.some.inj h).symm
    · cases h
  | _ => cases h
/-! #### is None -/
def isNonD : D → Bool
  | .non => true
  | _ => false
def gIsN : D → D → Option D := fun d e => match e with
  | .non => some (.bl (isNonD d))
  | _ => none
def gNotN : D → D → Option D := fun d e => match e with
  | .non => some (.bl (!isNonD d))
  | _ => none
theorem Rep.isNon {Av : Addr → Prop} {H : Hp} {v : V} {d : D} (r : Rep K Av H v d) : decide (v = .non) = isNonD d := by
  cases r <;> rfl
theorem v_isN : V2 K (fun x y H Q => y = .non ∧ Q (.bl (decide (x = .non))) H) gIsN := by
  intro Av H v w d e d' Q dom r q h fin
  cases e with
  | non =>
    cases h
    refine ⟨q.non_inv, ?_⟩
    rw [r.isNon]
    exact fin _ _ (Same.refl H) (.bl _)
  | _ => cases h
theorem v_notN : V2 K (fun x y H Q => y = .non ∧ Q (.bl (!decide (x = .non))) H) gNotN := by
  intro Av H v w d e d' Q dom r q h fin
  cases e with
  | non =>
    cases h
    refine ⟨q.non_inv, ?_⟩
    rw [r.isNon]
    exact fin _ _ (Same.refl H) (.bl _)
  | _ => cases h
/-! #### items -/
def gIx : D → D → Option D
  | .tup ds, .int i => atI ds i
  | .lst ds, .int i => atI ds i
  | .fl ds, .int i => atI ds i
  | .str z, .int i => if lnOk z.length then (atI z.cps.toList i).map fun c => .str ⟨#[c]⟩ else none
  | _, _ => none
theorem atI_rep {Av : Addr → Prop} {H : Hp} {vs : List V} {ds : List D} (r : RepAll K Av H vs ds) {i : Int} {d : D} (e : atI ds i = some d) : ∃ v, atI vs i = some v ∧ Rep K Av H v d := by
  unfold atI at e ⊢
  rw [r.length]
  cases q : ixN ds.length i with
  | none => rw [q] at e; cases e
  | some j =>
    rw [q] at e
    exact r.get (by simpa using e)
theorem v_ix : V2 K (rIx K) gIx := by
  intro Av H v w d e d' Q dom r q h fin
  cases e with
  | int i =>
    cases d with
    | tup ds =>
      obtain ⟨p, xs, rfl, hs, ra⟩ := r.tup_inv
      obtain ⟨y, e1, ry⟩ := atI_rep ra h
      exact .inr (.inl ⟨p, xs, i, y, rfl, q.int_inv, hs, e1, fin _ _ (Same.refl H) ry⟩)
    | lst ds =>
      obtain ⟨p, xs, rfl, hs, _, ra⟩ := r.lst_inv
      obtain ⟨y, e1, ry⟩ := atI_rep ra h
      exact .inl ⟨p, xs, i, y, rfl, q.int_inv, SqL.of hs, e1, fin _ _ (Same.refl H) ry⟩
    | fl ds =>
      obtain ⟨p, xs, rfl, hs, ra⟩ := r.fl_inv
      obtain ⟨y, e1, ry⟩ := atI_rep ra h
      exact .inl ⟨p, xs, i, y, rfl, q.int_inv, hs.sq, e1, fin _ _ (Same.refl H) ry⟩
    | str z =>
      dsimp only [gIx] at h
      split at h
      · rename_i hz
        cases e1 : atI z.cps.toList i with
        | none => rw [e1] at h; cases h
        | some c =>
          rw [e1] at h
          cases h
          exact .inr (.inr ⟨z, i, c, r.str_inv, q.int_inv, of_decide_eq_true hz, e1, fin _ _ (Same.refl H) (.str _)⟩)
      · cases h
    | _ => cases h
  | _ => cases d <;> cases h
/-! #### built-ins by name -/
def gLen : List D → Option D
  | [.tup ds] => some (.int ds.length)
  | [.lst ds] => some (.int ds.length)
  | [.fl ds] => some (.int ds.length)
  | [.str z] => if lnOk z.length then some (.int z.length) else none
  | _ => none
theorem RepAll.one {Av : Addr → Prop} {H : Hp} {vs : List V} {d : D} (r : RepAll K Av H vs [d]) : ∃ v, vs = [v] ∧ Rep K Av H v d := by
  cases r with | cons h t => cases t; exact ⟨_, rfl, h⟩
theorem RepAll.two {Av : Addr → Prop} {H : Hp} {vs : List V} {d e : D} (r : RepAll K Av H vs [d, e]) : ∃ v w, vs = [v, w] ∧ Rep K Av H v d ∧ Rep K Av H w e := by
  cases r with | cons h t => cases t with | cons h' t' => cases t'; exact ⟨_, _, rfl, h, h'⟩
theorem v_len : VN K (fun xs H Q => ∃ x n, xs = [x] ∧ LenV K x H n ∧ Q (.int n) H) gLen := by
  intro Av H vs ds d' Q dom r h fin
  unfold gLen at h
  split at h
  · cases h
    obtain ⟨v, rfl, q⟩ := r.one
    obtain ⟨p, xs, rfl, hs, ra⟩ := q.tup_inv
    exact ⟨.ref p, _, rfl, .inr ⟨xs, hs, ra.length.symm⟩, fin _ _ (Same.refl H) (.int _)⟩
  · cases h
    obtain ⟨v, rfl, q⟩ := r.one
    obtain ⟨p, xs, rfl, hs, _, ra⟩ := q.lst_inv
    exact ⟨.ref p, _, rfl, .inl ⟨xs, SqL.of hs, ra.length.symm⟩, fin _ _ (Same.refl H) (.int _)⟩
  · cases h
    obtain ⟨v, rfl, q⟩ := r.one
    obtain ⟨p, xs, rfl, hs, ra⟩ := q.fl_inv
    exact ⟨.ref p, _, rfl, .inl ⟨xs, hs.sq, ra.length.symm⟩, fin _ _ (Same.refl H) (.int _)⟩
  · split at h
    · rename_i hz
      cases h
      obtain ⟨v, rfl, q⟩ := r.one
      have e := q.str_inv
      subst e
      exact ⟨_, _, rfl, ⟨of_decide_eq_true hz, rfl⟩, fin _ _ (Same.refl H) (.int _)⟩
    · cases h
  · cases h
def gAbs : List D → Option D
  | [.int i] => some (.int (if i < 0 then -i else i))
  | _ => none
theorem v_abs : VN K (fun xs H Q => ∃ i, xs = [.int i] ∧ Q (.int (if i < 0 then -i else i)) H) gAbs := by
  intro Av H vs ds d' Q dom r h fin
  unfold gAbs at h
  split at h
  · cases h
    obtain ⟨v, rfl, q⟩ := r.one
    have e := q.int_inv
    subst e
    exact ⟨_, rfl, fin _ _ (Same.refl H) (.int _)⟩
  · cases h
def gMax2 : List D → Option D
  | [.int i, .int j] => some (.int (if j > i then j else i))
  | _ => none
def gMin2 : List D → Option D
  | [.int i, .int j] => some (.int (if j < i then j else i))
  | _ => none
theorem v_max2 : VN K (fun xs H Q => ∃ i j, xs = [.int i, .int j] ∧ Q (.int (if j > i then j else i)) H) gMax2 := by
  intro Av H vs ds d' Q dom r h fin
  unfold gMax2 at h
  split at h
  · cases h
    obtain ⟨v, w, rfl, q, q2⟩ := r.two
    have e := q.int_inv
    have e2 := q2.int_inv
    subst e e2
    exact ⟨_, _, rfl, fin _ _ (Same.refl H) (.int _)⟩
  · cases h
theorem v_min2 : VN K (fun xs H Q => ∃ i j, xs = [.int i, .int j] ∧ Q (.int (if j < i then j else i)) H) gMin2 := by
  intro Av H vs ds d' Q dom r h fin
  unfold gMin2 at h
  split at h
  · cases h
    obtain ⟨v, w, rfl, q, q2⟩ := r.two
    have e := q.int_inv
    have e2 := q2.int_inv
    subst e e2
    exact ⟨_, _, rfl, fin _ _ (Same.refl H) (.int _)⟩
  · cases h
def gInt : List D → Option D
  | [.int i] => some (.int i)
  | [.bl b] => some (.int (if b then 1 else 0))
  | _ => none
theorem v_int : VN K (fun xs H Q => (∃ i, xs = [.int i] ∧ Q (.int i) H) ∨ ∃ k, xs = [.bl k] ∧ Q (.int (if k then 1 else 0)) H) gInt := by
  intro Av H vs ds d' Q dom r h fin
  unfold gInt at h
  split at h
  · cases h
    obtain ⟨v, rfl, q⟩ := r.one
    have e := q.int_inv
    subst e
    exact .inl ⟨_, rfl, fin _ _ (Same.refl H) (.int _)⟩
  · cases h
    obtain ⟨v, rfl, q⟩ := r.one
    have e := q.bl_inv
    subst e
    exact .inr ⟨_, rfl, fin _ _ (Same.refl H) (.int _)⟩
  · cases h
def gTupOf : List D → Option D
  | [.lst ds] => some (.tup ds)
  | [.fl ds] => some (.tup ds)
  | [.tup ds] => some (.tup ds)
  | _ => none
theorem v_tupOf : VN K (fun xs H Q => ∃ p ys, xs = [.ref p] ∧ ((SqL K H p ys ∧ ∀ l, H l = none → Q (.ref l) (upd H l (.tup ys))) ∨ (SqT K H p ys ∧ Q (.ref p) H))) gTupOf := by
  intro Av H vs ds d' Q dom r h fin
  unfold gTupOf at h
  split at h
  · cases h
    obtain ⟨v, rfl, q⟩ := r.one
    obtain ⟨p, xs, rfl, hs, _, ra⟩ := q.lst_inv
    exact ⟨p, xs, rfl, .inl ⟨SqL.of hs, fun l hl => fin _ _ (same_new hl) (new_tup ra hl)⟩⟩
  · cases h
    obtain ⟨v, rfl, q⟩ := r.one
    obtain ⟨p, xs, rfl, hs, ra⟩ := q.fl_inv
    exact ⟨p, xs, rfl, .inl ⟨hs.sq, fun l hl => fin _ _ (same_new hl) (new_tup ra hl)⟩⟩
  · cases h
    obtain ⟨v, rfl, q⟩ := r.one
    obtain ⟨p, xs, rfl, hs, ra⟩ := q.tup_inv
    exact ⟨p, xs, rfl, .inr ⟨hs, fin _ _ (Same.refl H) (.tup hs ra)⟩⟩
  · cases h
def gLstOf : List D → Option D
  | [.lst ds] => some (.lst ds)
  | [.fl ds] => some (.lst ds)
  | [.tup ds] => some (.lst ds)
  | _ => none
theorem v_lstOf : VN K (fun xs H Q => ∃ p ys, xs = [.ref p] ∧ (SqL K H p ys ∨ SqT K H p ys) ∧ ∀ l, H l = none → Q (.ref l) (upd H l (.lst ys))) gLstOf := by
  intro Av H vs ds d' Q dom r h fin
  unfold gLstOf at h
  split at h
  · cases h
    obtain ⟨v, rfl, q⟩ := r.one
    obtain ⟨p, xs, rfl, hs, _, ra⟩ := q.lst_inv
    exact ⟨p, xs, rfl, .inl (SqL.of hs), fun l hl => fin _ _ (same_new hl) (new_lst ra dom hl)⟩
  · cases h
    obtain ⟨v, rfl, q⟩ := r.one
    obtain ⟨p, xs, rfl, hs, ra⟩ := q.fl_inv
    exact ⟨p, xs, rfl, .inl hs.sq, fun l hl => fin _ _ (same_new hl) (new_lst ra dom hl)⟩
  · cases h
    obtain ⟨v, rfl, q⟩ := r.one
    obtain ⟨p, xs, rfl, hs, ra⟩ := q.tup_inv
    exact ⟨p, xs, rfl, .inr hs, fun l hl => fin _ _ (same_new hl) (new_lst ra dom hl)⟩
  · cases h
/-- a list of whole numbers, of truth values -/
def intsD : List D → Option (List Int)
  | [] => some []
  | .int i :: r => (intsD r).map (i :: ·)
  | _ :: _ => none
def blsD : List D → Option (List Bool)
  | [] => some []
  | .bl i :: r => (blsD r).map (i :: ·)
  | _ :: _ => none
theorem RepAll.ints {Av : Addr → Prop} {H : Hp} : ∀ {ds : List D} {vs : List V} {ns : List Int}, RepAll K Av H vs ds → intsD ds = some ns → vs = ns.map V.int
  | [], _, _, .nil, h => by cases h; rfl
  | .int i :: r, _, ns, .cons h t, e => by
    cases q : intsD r with
    | none => simp [intsD, q] at e
    | some ms =>
      simp [intsD, q] at e
      subst e
      rw [h.int_inv, RepAll.ints t q]
      rfl
  | .non :: _, _, _, _, e => by cases e
  | .bl _ :: _, _, _, _, e => by cases e
  | .str _ :: _, _, _, _, e => by cases e
  | .tup _ :: _, _, _, _, e => by cases e
  | .lst _ :: _, _, _, _, e => by cases e
  | .fl _ :: _, _, _, _, e => by cases e
  | .dct _ :: _, _, _, _, e => by cases e
  | .ty _ :: _, _, _, _, e => by cases e
theorem RepAll.bls {Av : Addr → Prop} {H : Hp} : ∀ {ds : List D} {vs : List V} {ns : List Bool}, RepAll K Av H vs ds → blsD ds = some ns → vs = ns.map V.bl
  | [], _, _, .nil, h => by cases h; rfl
  | .bl i :: r, _, ns, .cons h t, e => by
    cases q : blsD r with
    | none => simp [blsD, q] at e
    | some ms =>
      simp [blsD, q] at e
      subst e
      rw [h.bl_inv, RepAll.bls t q]
      rfl
  | .non :: _, _, _, _, e => by cases e
  | .int _ :: _, _, _, _, e => by cases e
  | .str _ :: _, _, _, _, e => by cases e
  | .tup _ :: _, _, _, _, e => by cases e
  | .lst _ :: _, _, _, _, e => by cases e
  | .fl _ :: _, _, _, _, e => by cases e
  | .dct _ :: _, _, _, _, e => by cases e
  | .ty _ :: _, _, _, _, e => by cases e
def gSum : List D → Option D
  | [.lst ds] => (intsD ds).map fun ns => .int ns.sum
  | _ => none
theorem v_sum : VN K (rSum K) gSum := by
  intro Av H vs ds d' Q dom r h fin
  unfold gSum at h
  split at h
  · rename_i es
    cases e : intsD es with
    | none => rw [e] at h; cases h
    | some ns =>
      rw [e] at h
      cases h
      obtain ⟨v, rfl, q⟩ := r.one
      obtain ⟨p, xs, rfl, hs, _, ra⟩ := q.lst_inv
      have e2 := ra.ints e
      subst e2
      exact ⟨p, ns, rfl, SqL.of hs, fin _ _ (Same.refl H) (.int _)⟩
  · cases h
def gAll : List D → Option D
  | [.lst ds] => (blsD ds).map fun ns => .bl (ns.all id)
  | _ => none
def gAny : List D → Option D
  | [.lst ds] => (blsD ds).map fun ns => .bl (ns.any id)
  | _ => none
theorem v_all : VN K (rAll K) gAll := by
  intro Av H vs ds d' Q dom r h fin
  unfold gAll at h
  split at h
  · rename_i es
    cases e : blsD es with
    | none => rw [e] at h; cases h
    | some ns =>
      rw [e] at h
      cases h
      obtain ⟨v, rfl, q⟩ := r.one
      obtain ⟨p, xs, rfl, hs, _, ra⟩ := q.lst_inv
      have e2 := ra.bls e
      subst e2
      exact ⟨p, ns, rfl, SqL.of hs, fin _ _ (Same.refl H) (.bl _)⟩
  · cases h
theorem v_any : VN K (rAny K) gAny := by
  intro Av H vs ds d' Q dom r h fin
  unfold gAny at h
  split at h
  · rename_i es
    cases e : blsD es with
    | none => rw [e] at h; cases h
    | some ns =>
      rw [e] at h
      cases h
      obtain ⟨v, rfl, q⟩ := r.one
      obtain ⟨p, xs, rfl, hs, _, ra⟩ := q.lst_inv
      have e2 := ra.bls e
      subst e2
      exact ⟨p, ns, rfl, SqL.of hs, fin _ _ (Same.refl H) (.bl _)⟩
  · cases h
/-! #### isinstance -/
def tyN : D → String
  | .non => "NoneType"
  | .bl _ => "bool"
  | .int _ => "int"
  | .str _ => "str"
  | .tup _ => "tuple"
  | .lst _ => "list"
  | .fl _ => "list"
  | .dct _ => "dict"
  | .ty _ => "type"
def isTyD : D → Bool
  | .ty _ => true
  | _ => false
/-- T: int, bool, str, tuple, list, dict -/
def isiD (n : String) (d : D) : Option Bool :=
  if n = "int" then some (match d with | .int _ => true | .bl _ => true | _ => false)
  else if n = "bool" then some (match d with | .bl _ => true | _ => false)
  else if n = "str" then some (match d with | .str _ => true | _ => false)
  else if n = "tuple" then some (match d with | .tup _ => true | _ => false)
  else if n = "list" then some (match d with | .lst _ => true | .fl _ => true | _ => false)
  else if n = "dict" then some (match d with | .dct _ => true | _ => false)
  else none
def gIsi : List D → Option D
  | [d, .ty n] => if isTyD d then none else (isiD n d).map D.bl
  | _ => none
theorem Rep.tyx {Av : Addr → Prop} {H : Hp} {v : V} {d : D} (r : Rep K Av H v d) (h : isTyD d = false) : TyX K H v (.type (tyN d)) := by
  cases r with
  | non => exact .base .non
  | bl b => exact .base (.bl b)
  | int i => exact .base (.int i)
  | str s => exact .base (.str s)
  | tup hs _ =>
    rcases hs with (hs | ⟨o, hs⟩) | ⟨o, its, n, h1, h2, _⟩
    · exact .base (.tup hs)
    · exact .fTuple hs
    · exact .kTuple h1 h2
  | lst hs _ _ => exact .base (.lst hs)
  | fl hs _ =>
    rcases hs with ⟨o, hs⟩ | ⟨o, its, n, h1, h2, _⟩
    · exact .base (.frz hs)
    · exact .kList h1 h2
  | dct hs _ _ => exact .base (.dK hs)
  | ty n => cases h
theorem isi_kit {n : String} {d : D} {b : Bool} (h : isiD n d = some b) (ht : isTyD d = false) : kitB (tyN d) n = some b := by
  unfold isiD at h
  split at h
  · subst n
    cases d <;> first | (cases ht; done) | (cases h; dsimp only [tyN]; decide +kernel)
  split at h
  · subst n
    cases d <;> first | (cases ht; done) | (cases h; dsimp only [tyN]; decide +kernel)
  split at h
  · subst n
    cases d <;> first | (cases ht; done) | (cases h; dsimp only [tyN]; decide +kernel)
  split at h
  · subst n
    cases d <;> first | (cases ht; done) | (cases h; dsimp only [tyN]; decide +kernel)
  split at h
  · subst n
    cases d <;> first | (cases ht; done) | (cases h; dsimp only [tyN]; decide +kernel)
  split at h
  · subst n
    cases d <;> first | (cases ht; done) | (cases h; dsimp only [tyN]; decide +kernel)
  · cases h
theorem v_isi : VN K (rIsi K) gIsi := by
  intro Av H vs ds d' Q dom r h fin
  unfold gIsi at h
  split at h
  · rename_i d n
    split at h
    · cases h
    · rename_i ht
      have ht' : isTyD d = false := by simpa using ht
      cases e : isiD n d with
      | none => rw [e] at h; cases h
      | some b =>
        rw [e] at h
        cases h
        obtain ⟨v, w, rfl, q, q2⟩ := r.two
        have e2 := q2.ty_inv
        subst e2
        exact ⟨v, .ty n, _, _, b, rfl, .ty n, q.tyx ht', kit_ty (isi_kit e ht'), fin _ _ (Same.refl H) (.bl _)⟩
  · cases h
end
end Pl
set_option maxHeartbeats 4000000
namespace Pl
open PySem PySem.Spec L2
section
variable {K : PySem.W.Frag} {A : Addr → Prop} {O O' P : List Nat} {H G : Hp} {σ σ' : L2.St} {ρ ρ' : Lc} {io : List Nat}
/-! ### more of slots -/
theorem own_congr {O : List Nat} {σ σ' : L2.St} (h : ∀ i, i ∈ O → σ'[i]? = σ[i]?) : Own O σ' = Own O σ := by
  funext a
  apply propext
  constructor
  · rintro ⟨i, hi, e⟩; exact ⟨i, hi, by rw [← h i hi]; exact e⟩
  · rintro ⟨i, hi, e⟩; exact ⟨i, hi, by rw [h i hi]; exact e⟩
theorem set_ne {α : Type} {l : List α} {i j : Nat} {x : α} (h : j ≠ i) : (l.set i x)[j]? = l[j]? := List.getElem?_set_ne (Ne.symm h)
theorem own_set {i : Nat} {x : Option V} (h : i ∉ O) : Own O (σ.set i x) = Own O σ := own_congr fun j hj => set_ne fun e => h (e ▸ hj)
theorem avd_set {i : Nat} {x : Option V} (h : i ∉ O) : Avd A O (σ.set i x) = Avd A O σ := by
  unfold Avd
  rw [own_set h]
/-- a name that is not owned is stored -/
theorem LocR.set (r : LocR K A O H σ ρ) {i : Nat} {v : V} {d : D} (h : i ∉ O) (q : Rep K (Avd A O σ) H v d) : LocR K A O H (σ.set i (some v)) (ρ.set i (some d)) where
  len := by rw [List.length_set, List.length_set]; exact r.len
  dom := r.dom
  own := fun j hj => by
    obtain ⟨a, xs, ds, e1, e2, e3, n, q⟩ := r.own j hj
    have hne : j ≠ i := fun e => h (e ▸ hj)
    refine ⟨a, xs, ds, by rw [set_ne hne]; exact e1, by rw [set_ne hne]; exact e2, e3, n, by rw [avd_set h]; exact q⟩
  inj := fun j k a hj hk e1 e2 => by
    have n1 : j ≠ i := fun e => h (e ▸ hj)
    have n2 : k ≠ i := fun e => h (e ▸ hk)
    rw [set_ne n1] at e1
    rw [set_ne n2] at e2
    exact r.inj j k a hj hk e1 e2
  rep := fun j e hj ej => by
    rw [avd_set h]
    by_cases hij : j = i
    · subst hij
      by_cases hl : j < ρ.length
      · rw [List.getElem?_set_self hl] at ej
        cases ej
        exact ⟨v, List.getElem?_set_self (by rw [r.len]; exact hl), q⟩
      · rw [List.getElem?_eq_none (by rw [List.length_set]; omega)] at ej
        cases ej
    · rw [set_ne hij] at ej ⊢
      exact r.rep j e hj ej
/-- a name that is not owned is forgotten -/
theorem LocR.wipe1 (r : LocR K A O H σ ρ) {i : Nat} (h : i ∉ O) : LocR K A O H (σ.set i none) (ρ.set i none) where
  len := by rw [List.length_set, List.length_set]; exact r.len
  dom := r.dom
  own := fun j hj => by
    obtain ⟨a, xs, ds, e1, e2, e3, n, q⟩ := r.own j hj
    have hne : j ≠ i := fun e => h (e ▸ hj)
    exact ⟨a, xs, ds, by rw [set_ne hne]; exact e1, by rw [set_ne hne]; exact e2, e3, n, by rw [avd_set h]; exact q⟩
  inj := fun j k a hj hk e1 e2 => by
    have n1 : j ≠ i := fun e => h (e ▸ hj)
    have n2 : k ≠ i := fun e => h (e ▸ hk)
    rw [set_ne n1] at e1
    rw [set_ne n2] at e2
    exact r.inj j k a hj hk e1 e2
  rep := fun j e hj ej => by
    rw [avd_set h]
    by_cases hij : j = i
    · subst hij
      by_cases hl : j < ρ.length
      · rw [List.getElem?_set_self hl] at ej; cases ej
      · rw [List.getElem?_eq_none (by rw [List.length_set]; omega)] at ej; cases ej
    · rw [set_ne hij] at ej ⊢
      exact r.rep j e hj ej
/-- fewer slots are owned: what the others hold is shared from now on -/
theorem LocR.weak (r : LocR K A O H σ ρ) (s : ∀ i, i ∈ P → i ∈ O) : LocR K A P H σ ρ := by
  have sub : ∀ a, Avd A P σ a → Avd A O σ a := fun a h => by
    rcases h with h | ⟨i, hi, e⟩
    · exact .inl h
    · exact .inr ⟨i, s i hi, e⟩
  refine ⟨r.len, r.dom, fun i hi => ?_, fun i j a hi hj => r.inj i j a (s i hi) (s j hj), fun i d hi e => ?_⟩
  · obtain ⟨a, xs, ds, e1, e2, e3, n, q⟩ := r.own i (s i hi)
    exact ⟨a, xs, ds, e1, e2, e3, n, q.keep (Keep.less sub)⟩
  · by_cases ho : i ∈ O
    · obtain ⟨a, xs, ds, e1, e2, e3, n, q⟩ := r.own i ho
      rw [e] at e2
      cases e2
      refine ⟨.ref a, e1, .lst e3 (fun z => ?_) (q.keep (Keep.less sub))⟩
      rcases z with z | ⟨j, hj, ej⟩
      · exact n z
      · exact hi (by rw [r.inj i j a ho (s j hj) e1 ej]; exact hj)
    · obtain ⟨v, e1, q⟩ := r.rep i d ho e
      exact ⟨v, e1, q.keep (Keep.less sub)⟩
theorem Tr.weak (s : ∀ i, i ∈ P → i ∈ O) : Tr io O σ H P σ H := ⟨Chg.refl, fun a ⟨i, hi, e⟩ => .inl ⟨i, s i hi, e⟩, fun _ _ => rfl⟩
theorem Tr.set {i : Nat} {x : Option V} (h : i ∉ O) (hio : i ∉ io) : Tr io O σ H O (σ.set i x) H := ⟨Chg.refl, fun a z => .inl (by rw [own_set h] at z; exact z), fun j hj => set_ne fun e => hio (e ▸ hj)⟩
/-- data that stand, over a statement -/
theorem LocR.keepT (r : LocR K A O H σ ρ) (t : Tr io O σ H O' σ' G) : Keep (Avd A O σ) (Avd A O' σ') H G where
  tup := (r.keep t.chg).tup
  lst := fun a xs h n => ⟨((r.keep t.chg).lst a xs h n).1, fun z => by
    rcases z with z | z
    · exact n (.inl z)
    · rcases t.new a z with z | z
      · exact n (.inr z)
      · rw [h] at z; cases z⟩
  frz := (r.keep t.chg).frz
  dct := fun a xs h n => ⟨((r.keep t.chg).dct a xs h n).1, fun z => by
    rcases z with z | z
    · exact n (.inl z)
    · rcases t.new a z with z | z
      · exact n (.inr z)
      · rw [h] at z; cases z⟩
/-- an owned list is changed -/
theorem LocR.change (r : LocR K A O H σ ρ) {i : Nat} {c : Addr} {xs : List V} {ds : List D} (hi : i ∈ O) (e : σ[i]? = some (some (.ref c))) (k : ∀ a o, H a = some o → a ≠ c → G a = some o) (ec : G c = some (.lst xs)) (q : RepAll K (Avd A O σ) G xs ds) :
    LocR K A O G σ (ρ.set i (some (.lst ds))) := by
  have ch : Chg (Own O σ) H G := fun a o h n => k a o h fun z => n (by rw [z]; exact ⟨i, hi, e⟩)
  have kp := r.keep ch
  refine ⟨by rw [List.length_set]; exact r.len, fun a ha z => ?_, fun j hj => ?_, r.inj, fun j d hj ej => ?_⟩
  · cases eh : H a with
    | none => exact r.dom a ha eh
    | some o =>
      have : a ≠ c := fun w => by
        obtain ⟨b, _, _, e1, _, _, n, _⟩ := r.own i hi
        rw [e] at e1
        cases e1
        exact n (w ▸ ha)
      rw [k a o eh this] at z
      cases z
  · by_cases hij : j = i
    · subst hij
      obtain ⟨b, ys, es, e1, e2, e3, n, _⟩ := r.own j hj
      rw [e] at e1
      cases e1
      have hl : j < ρ.length := (List.getElem?_eq_some_iff.mp e2).1
      exact ⟨c, xs, ds, e, List.getElem?_set_self hl, ec, n, q⟩
    · obtain ⟨b, ys, es, e1, e2, e3, n, q2⟩ := r.own j hj
      have hb : b ≠ c := fun w => hij (r.inj j i c hj hi (w ▸ e1) e)
      exact ⟨b, ys, es, e1, by rw [set_ne hij]; exact e2, k b _ e3 hb, n, q2.keep kp⟩
  · have hij : j ≠ i := fun w => hj (w ▸ hi)
    rw [set_ne hij] at ej
    obtain ⟨v, e1, q2⟩ := r.rep j d hj ej
    exact ⟨v, e1, q2.keep kp⟩
/-- a new list is laid into a slot -/
theorem LocR.fresh (r : LocR K A O H σ ρ) {i : Nat} {c : Addr} {xs : List V} {ds : List D} (hi : i ∉ O) (hl : i < σ.length) (hc : H c = none) (q : RepAll K (Avd A O σ) H xs ds) :
    LocR K A (i :: O) (upd H c (.lst xs)) (σ.set i (some (.ref c))) (ρ.set i (some (.lst ds))) ∧ (i ∉ io → Tr io O σ H (i :: O) (σ.set i (some (.ref c))) (upd H c (.lst xs))) := by
  have nc : ¬ Avd A O σ c := fun z => r.avdom c z hc
  have ho : ∀ a, Own (i :: O) (σ.set i (some (.ref c))) a → a = c ∨ Own O σ a := fun a => by
    rintro ⟨j, hj, e⟩
    by_cases hij : j = i
    · subst hij
      rw [List.getElem?_set_self hl] at e
      cases e
      exact .inl rfl
    · rw [set_ne hij] at e
      exact .inr ⟨j, (List.mem_cons.mp hj).resolve_left hij, e⟩
  have sm : Same H (upd H c (.lst xs)) := same_new hc
  have kp : Keep (Avd A O σ) (Avd A (i :: O) (σ.set i (some (.ref c)))) H (upd H c (.lst xs)) := ⟨fun a ys h => Same.rd sm h, fun a ys h n => ⟨sm _ _ h, fun z => by
      rcases z with z | z
      · exact n (.inl z)
      · rcases ho a z with z | z
        · rw [z, hc] at h; cases h
        · exact n (.inr z)⟩, fun a o u h => sm _ _ h, fun a ys h n => ⟨sm _ _ h, fun z => by
      rcases z with z | z
      · exact n (.inl z)
      · rcases ho a z with z | z
        · rw [z, hc] at h; cases h
        · exact n (.inr z)⟩⟩
  refine ⟨⟨by rw [List.length_set, List.length_set]; exact r.len, fun a ha z => ?_, fun j hj => ?_, fun j k a hj hk e1 e2 => ?_, fun j d hj ej => ?_⟩, fun hio => ⟨Chg.of_same sm, fun a z => ?_, fun j hj => set_ne fun e => hio (e ▸ hj)⟩⟩
  · cases eh : H a with
    | none => exact r.dom a ha eh
    | some o => rw [sm a o eh] at z; cases z
  · by_cases hij : j = i
    · subst hij
      exact ⟨c, xs, ds, List.getElem?_set_self hl, List.getElem?_set_self (by rw [← r.len]; exact hl), upd_same, fun z => nc (.inl z), q.keep kp⟩
    · obtain ⟨b, ys, es, e1, e2, e3, n, q2⟩ := r.own j ((List.mem_cons.mp hj).resolve_left hij)
      exact ⟨b, ys, es, by rw [set_ne hij]; exact e1, by rw [set_ne hij]; exact e2, sm _ _ e3, n, q2.keep kp⟩
  · by_cases h1 : j = i
    · subst h1
      rw [List.getElem?_set_self hl] at e1
      cases e1
      by_cases h2 : k = j
      · exact h2.symm
      · rw [set_ne h2] at e2
        exact absurd (.inr ⟨k, (List.mem_cons.mp hk).resolve_left h2, e2⟩) nc
    · rw [set_ne h1] at e1
      have hj' := (List.mem_cons.mp hj).resolve_left h1
      by_cases h2 : k = i
      · subst h2
        rw [List.getElem?_set_self hl] at e2
        cases e2
        exact absurd (.inr ⟨j, hj', e1⟩) nc
      · rw [set_ne h2] at e2
        exact r.inj j k a hj' ((List.mem_cons.mp hk).resolve_left h2) e1 e2
  · have hji : j ≠ i := fun e => hj (by rw [e]; exact List.mem_cons_self)
    have hjo : j ∉ O := fun e => hj (List.mem_cons_of_mem _ e)
    rw [set_ne hji] at ej ⊢
    obtain ⟨v, e1, q2⟩ := r.rep j d hjo ej
    exact ⟨v, e1, q2.keep kp⟩
  · rcases ho a z with z | z
    · exact .inr (by rw [z]; exact hc)
    · exact .inl z
end
end Pl
set_option maxHeartbeats 4000000
namespace Pl
open PySem PySem.Spec L2
/-! ### statements -/
def PostS {io oe : List Nat} (X : Cx) (G : Pc io oe) (Ol O O' : List Nat) (σ : L2.St) (H : Hp) (o : Out (Flow' × Lc)) (Dn : Ends) : Prop :=
  match o with
  | .ok (.nx, ρ) => ∀ σ' H', Tr io O σ H O' σ' H' → LocR X.K G.A O' H' σ' ρ → Dn.nx σ' H'
  | .ok (.bk, ρ) => ∀ σ' H', Tr io O σ H Ol σ' H' → LocR X.K G.A Ol H' σ' ρ → Dn.bk σ' H'
  | .ok (.ct, ρ) => ∀ σ' H', Tr io O σ H Ol σ' H' → LocR X.K G.A Ol H' σ' ρ → Dn.ct σ' H'
  | .ok (.rt d, ρ) => ∀ v σ' H', Tr io O σ H io σ' H' → LocR X.K G.A io H' σ' ρ → Rep X.K (Avd G.A io σ') H' v d → Dn.rt v H'
  | .err x ρ => ∀ cls dd σ' H', Tr io O σ H oe σ' H' → LocR X.K G.A oe H' σ' ρ → ErrR X.K X.mg x cls dd H' → G.EX cls dd σ' H'
  | .stuck => False
def tS {io oe : List Nat} (X : Cx) (G : Pc io oe) (Ol O O' : List Nat) (f : SD) : TS := fun Dn σ H => ∃ ρ, LocR X.K G.A O H σ ρ ∧ PostS X G Ol O O' σ H (f ρ) Dn
/-- a statement, a block: O is owned ahead of it, O' behind it, Ol at the loop's head -/
def PSp {io oe : List Nat} (X : Cx) (G : Pc io oe) (Ol O O' : List Nat) (st : Stmt) (f : SD) : Prop := PS X st (tS X G Ol O O' f)
def PSsp {io oe : List Nat} (X : Cx) (G : Pc io oe) (Ol O O' : List Nat) (st : List Stmt) (f : SD) : Prop := PSs X st (tS X G Ol O O' f)
def sNx : SD := fun ρ => .ok (.nx, ρ)
def sSeq (f k : SD) : SD := fun ρ => (f ρ).bind fun p => match p.1 with
  | .nx => k p.2
  | fl => .ok (fl, p.2)
section
variable {X : Cx} {io oe : List Nat} {G : Pc io oe} {Ol O O' O1 P : List Nat} {σ σ1 : L2.St} {H H1 : Hp} {f k : SD}
theorem PostS.from {o : Out (Flow' × Lc)} {Dn : Ends} (t : Tr io O σ H O1 σ1 H1) (h : PostS X G Ol O O' σ H o Dn) : PostS X G Ol O1 O' σ1 H1 o Dn := by
  cases o with
  | ok p =>
    obtain ⟨fl, ρ⟩ := p
    cases fl with
    | nx => exact fun σ' H' t' => h σ' H' (t.trans t')
    | bk => exact fun σ' H' t' => h σ' H' (t.trans t')
    | ct => exact fun σ' H' t' => h σ' H' (t.trans t')
    | rt d => exact fun v σ' H' t' => h v σ' H' (t.trans t')
  | err x ρ => exact fun cls dd σ' H' t' => h cls dd σ' H' (t.trans t')
  | stuck => exact h
/-- an expression first, then the rest -/
theorem PostS.step {α β : Type} {R : Hp → β → α → Prop} {o : Out (α × Lc)} {kk : α × Lc → Out (Flow' × Lc)} {Dn : Ends} {Pd : β → Hp → Prop}
    (h : PostS X G Ol O O' σ H (o.bind kk) Dn)
    (hk : ∀ a ρ b H', LocR X.K G.A O H' σ ρ → R H' b a → Chg (Own O σ) H H' → PostS X G Ol O O' σ H' (kk (a, ρ)) Dn → Pd b H') : Post X G O σ H R o Pd := by
  cases o with
  | ok p => exact fun b H' c r q => hk p.1 p.2 b H' r q c (PostS.from (Tr.of_chg c) h)
  | err x ρ => exact fun cls dd H' t => h cls dd σ H' t
  | stuck => exact h
/-- a statement first, then the rest -/
theorem PostS.seq {o : Out (Flow' × Lc)} {kk : Flow' × Lc → Out (Flow' × Lc)} {Dn Dn' : Ends} {Ol' O2 : List Nat} (h : PostS X G Ol O O2 σ H (o.bind kk) Dn)
    (hn : ∀ ρ σ' H', Tr io O σ H O' σ' H' → LocR X.K G.A O' H' σ' ρ → PostS X G Ol O' O2 σ' H' (kk (.nx, ρ)) Dn → Dn'.nx σ' H')
    (hb : ∀ ρ σ' H', Tr io O σ H Ol' σ' H' → LocR X.K G.A Ol' H' σ' ρ → PostS X G Ol Ol' O2 σ' H' (kk (.bk, ρ)) Dn → Dn'.bk σ' H')
    (hc : ∀ ρ σ' H', Tr io O σ H Ol' σ' H' → LocR X.K G.A Ol' H' σ' ρ → PostS X G Ol Ol' O2 σ' H' (kk (.ct, ρ)) Dn → Dn'.ct σ' H')
    (hr : ∀ d ρ v σ' H', Tr io O σ H io σ' H' → LocR X.K G.A io H' σ' ρ → Rep X.K (Avd G.A io σ') H' v d → PostS X G Ol io O2 σ' H' (kk (.rt d, ρ)) Dn → Dn'.rt v H') :
    PostS X G Ol' O O' σ H o Dn' := by
  cases o with
  | ok p =>
    obtain ⟨fl, ρ⟩ := p
    cases fl with
    | nx => exact fun σ' H' t r => hn ρ σ' H' t r (PostS.from t h)
    | bk => exact fun σ' H' t r => hb ρ σ' H' t r (PostS.from t h)
    | ct => exact fun σ' H' t r => hc ρ σ' H' t r (PostS.from t h)
    | rt d => exact fun v σ' H' t r q => hr d ρ v σ' H' t r q (PostS.from t h)
  | err x ρ => exact h
  | stuck => exact h
theorem s_nil : PSsp X G Ol O O [] sNx := by
  refine PSs.imp pss_nil fun Dn σ H h => ?_
  obtain ⟨ρ, lr, h⟩ := h
  exact h σ H Tr.refl lr
theorem s_cons {st : Stmt} {rest : List Stmt} (h1 : PSp X G Ol O O1 st f) (h2 : PSsp X G Ol O1 O' rest k) : PSsp X G Ol O O' (st :: rest) (sSeq f k) := by
  refine PSs.imp (pss_cons h1 h2) fun Dn σ H h => ?_
  obtain ⟨ρ, lr, h⟩ := h
  refine ⟨ρ, lr, PostS.seq (Dn := Dn) h (fun ρ' σ' H' t r q => ⟨ρ', r, q⟩) (fun ρ' σ' H' t r q => q σ' H' Tr.refl r) (fun ρ' σ' H' t r q => q σ' H' Tr.refl r) fun d ρ' v σ' H' t r rv q => q v σ' H' Tr.refl r rv⟩
theorem s_one {st : Stmt} (h1 : PSp X G Ol O O' st f) : PSsp X G Ol O O' [st] f := pss_one h1
/-- ahead of a block owned lists are let go -/
theorem s_weak {st : List Stmt} (h : PSsp X G Ol P O' st f) (s : ∀ i, i ∈ P → i ∈ O) : PSsp X G Ol O O' st f := by
  refine PSs.imp h fun Dn σ H h => ?_
  obtain ⟨ρ, lr, h⟩ := h
  exact ⟨ρ, lr.weak s, PostS.from (Tr.weak s) h⟩
theorem s_weak1 {st : Stmt} (h : PSp X G Ol P O' st f) (s : ∀ i, i ∈ P → i ∈ O) : PSp X G Ol O O' st f := by
  refine PS.imp h fun Dn σ H h => ?_
  obtain ⟨ρ, lr, h⟩ := h
  exact ⟨ρ, lr.weak s, PostS.from (Tr.weak s) h⟩
/-- .. behind one -/
theorem s_post {st : List Stmt} (h : PSsp X G Ol O O1 st f) (s : ∀ i, i ∈ O' → i ∈ O1) : PSsp X G Ol O O' st f := by
  refine PSs.imp h fun Dn σ H h => ?_
  obtain ⟨ρ, lr, h⟩ := h
  refine ⟨ρ, lr, ?_⟩
  generalize hf : f ρ = o at h
  cases o with
  | ok p =>
    obtain ⟨fl, ρ'⟩ := p
    cases fl with
    | nx => exact fun σ' H' t r => h σ' H' (t.trans (Tr.weak s)) (r.weak s)
    | bk => exact h
    | ct => exact h
    | rt d => exact h
  | err x ρ' => exact h
  | stuck => exact h
theorem s_pass {pos : Pos} : PSp X G Ol O O (.Pass pos) sNx := by
  refine PS.imp ps_pass fun Dn σ H h => ?_
  obtain ⟨ρ, lr, h⟩ := h
  exact h σ H Tr.refl lr
def sBk : SD := fun ρ => .ok (.bk, ρ)
def sCt : SD := fun ρ => .ok (.ct, ρ)
theorem s_break {pos : Pos} (s : ∀ i, i ∈ Ol → i ∈ O) : PSp X G Ol O O' (.Break pos) sBk := by
  refine PS.imp ps_break fun Dn σ H h => ?_
  obtain ⟨ρ, lr, h⟩ := h
  exact h σ H (Tr.weak s) (lr.weak s)
theorem s_continue {pos : Pos} (s : ∀ i, i ∈ Ol → i ∈ O) : PSp X G Ol O O' (.Continue pos) sCt := by
  refine PS.imp ps_continue fun Dn σ H h => ?_
  obtain ⟨ρ, lr, h⟩ := h
  exact h σ H (Tr.weak s) (lr.weak s)
def sDrop (f : ED) : SD := fun ρ => (f ρ).bind fun p => .ok (.nx, p.2)
theorem s_expr {e : Expr} {f : ED} {pos : Pos} (he : PEp X G O e f) (hs : swapsWith e none pos.line X.env = pure false := by rfl) : PSp X G Ol O O (.Expr e pos) (sDrop f) := by
  refine PS.imp (ps_expr he hs) fun Dn σ H h => ?_
  obtain ⟨ρ, lr, h⟩ := h
  exact ⟨ρ, lr, PostS.step h fun d ρ1 v H1 r1 q1 c1 h1 => h1 σ H1 Tr.refl r1⟩
theorem s_doc {x : Str} {j pos pos'} : PSp X G Ol O O (.Expr (.Constant (.str x) j pos) pos') sNx := by
  refine PS.imp ps_doc fun Dn σ H h => ?_
  obtain ⟨ρ, lr, h⟩ := h
  exact h σ H Tr.refl lr
def sRet (f : ED) : SD := fun ρ => (f ρ).bind fun p => .ok (.rt p.1, p.2)
theorem s_ret {e : Expr} {f : ED} {pos : Pos} (he : PEp X G O e f) (s : ∀ i, i ∈ io → i ∈ O := by decide) : PSp X G Ol O O' (.Return (some e) pos) (sRet f) := by
  refine PS.imp (ps_ret he) fun Dn σ H h => ?_
  obtain ⟨ρ, lr, h⟩ := h
  refine ⟨ρ, lr, PostS.step h fun d ρ1 v H1 r1 q1 c1 h1 => h1 v σ H1 (Tr.weak s) (r1.weak s) (q1.keep (Keep.less fun a z => ?_))⟩
  rcases z with z | ⟨i, hi, e⟩
  · exact .inl z
  · exact .inr ⟨i, s i hi, e⟩
def sRetN : SD := fun ρ => .ok (.rt .non, ρ)
theorem s_retN {pos : Pos} (s : ∀ i, i ∈ io → i ∈ O := by decide) : PSp X G Ol O O' (.Return none pos) sRetN := by
  refine PS.imp ps_retN fun Dn σ H h => ?_
  obtain ⟨ρ, lr, h⟩ := h
  exact h .non σ H (Tr.weak s) (lr.weak s) .non
def sIf (c : TD) (f k : SD) : SD := fun ρ => (c ρ).bind fun p => if p.1 = true then f p.2 else k p.2
theorem s_if {c : Expr} {a b : List Stmt} {t : TD} {pos : Pos} (hc : PTp X G O c t) (ha : PSsp X G Ol O O' a f) (hb : PSsp X G Ol O O' b k) : PSp X G Ol O O' (.If c a b pos) (sIf t f k) := by
  refine PS.imp (ps_if hc ha hb) fun Dn σ H h => ?_
  obtain ⟨ρ, lr, h⟩ := h
  refine ⟨ρ, lr, PostS.step h fun d ρ1 v H1 r1 q1 c1 h1 => ?_⟩
  subst q1
  cases v with
  | true => exact ⟨ρ1, r1, h1⟩
  | false => exact ⟨ρ1, r1, h1⟩
end
/-! ### targets -/
def PostG {io oe : List Nat} (X : Cx) (G : Pc io oe) (O ts : List Nat) (σ : L2.St) (H : Hp) (o : Option Lc) (Q : L2.St → Hp → Prop) : Prop :=
  match o with
  | some ρ => ∀ σ', (∀ i, i ∉ ts → σ'[i]? = σ[i]?) → σ'.length = σ.length → LocR X.K G.A O H σ' ρ → Q σ' H
  | none => False
/-- a target; ts: its slots -/
def PGp {io oe : List Nat} (X : Cx) (G : Pc io oe) (O ts : List Nat) (tg : Expr) (g : GD) : Prop :=
  PG X tg (fun v σ H Q => ∃ ρ d, LocR X.K G.A O H σ ρ ∧ Rep X.K (Avd G.A O σ) H v d ∧ PostG X G O ts σ H (g d ρ) Q)
abbrev GDs := List D → Lc → Option Lc
def PGsp {io oe : List Nat} (X : Cx) (G : Pc io oe) (O ts : List Nat) (tg : List Expr) (g : GDs) : Prop :=
  PGs X tg (fun vs σ H Q => ∃ ρ ds, LocR X.K G.A O H σ ρ ∧ RepAll X.K (Avd G.A O σ) H vs ds ∧ PostG X G O ts σ H (g ds ρ) Q)
def gNm (i : Nat) : GD := fun d ρ => some (ρ.set i (some d))
def gsNil : GDs := fun ds ρ => match ds with
  | [] => some ρ
  | _ => none
def gsCons (g : GD) (k : GDs) : GDs := fun ds ρ => match ds with
  | d :: r => (g d ρ).bind (k r)
  | [] => none
def gTp (n : Nat) (k : GDs) : GD := fun d ρ => match d with
  | .tup ds => if ds.length = n then k ds ρ else none
  | .lst ds => if ds.length = n then k ds ρ else none
  | _ => none
section
variable {X : Cx} {io oe : List Nat} {G : Pc io oe} {O ts us : List Nat} {σ : L2.St} {H : Hp}
theorem PG.imp {tg : Expr} {t t' : TG} (h : PG X tg t) (w : ∀ v σ H Q, t' v σ H Q → t v σ H Q) : PG X tg t' := ⟨fun pins s σ H v u Q I r q => h.run pins s σ H v u Q I r (w v σ H Q q)⟩
theorem PGs.imp {tg : List Expr} {t t' : TGs} (h : PGs X tg t) (w : ∀ v σ H Q, t' v σ H Q → t v σ H Q) : PGs X tg t' := ⟨fun pins s σ H v u Q I r q => h.run pins s σ H v u Q I r (w v σ H Q q)⟩
theorem PG.or {tg : Expr} {t t' : TG} (h : PG X tg t) (h' : PG X tg t') : PG X tg (fun v σ H Q => t v σ H Q ∨ t' v σ H Q) := ⟨fun pins s σ H v u Q I r q => by
  rcases q with q | q
  · exact h.run pins s σ H v u Q I r q
  · exact h'.run pins s σ H v u Q I r q⟩
theorem g_name (i : Nat) {x : Str} {pos : Pos} (hN : X.N.Nodup) (hx : L2.Loc X.env.scope x) (hi : X.N[i]? = some x := by rfl) (hO : i ∉ O := by decide) (hf : X.fn x = true ∨ X.env.scope.names.lookup x = some .local := by first | exact .inl rfl | exact .inr rfl) : PGp X G O [i] (.Name x pos) (gNm i) := by
  refine PG.imp (pg_name (i := i) hN hi hx hf) fun v σ H Q h => ?_
  obtain ⟨ρ, d, lr, q, h⟩ := h
  exact h (σ.set i (some v)) (fun j hj => set_ne fun e => hj (by rw [e]; exact List.mem_singleton_self i)) (List.length_set) (lr.set hO q)
theorem g_nil : PGsp X G O [] [] gsNil := by
  refine PGs.imp pgs_nil fun vs σ H Q h => ?_
  obtain ⟨ρ, ds, lr, q, h⟩ := h
  cases q with
  | nil => exact ⟨rfl, h σ (fun _ _ => rfl) rfl lr⟩
  | cons _ _ => exact h.elim
theorem g_cons {e : Expr} {es : List Expr} {g : GD} {k : GDs} (h1 : PGp X G O ts e g) (h2 : PGsp X G O us es k) (hu : ∀ i, i ∈ ts → i ∉ O)
    (hs : (assignEach (e :: es) X.env).map (·.2) = assign e X.env :: (assignEach es X.env).map (·.2) := by rfl) : PGsp X G O (ts ++ us) (e :: es) (gsCons g k) := by
  refine PGs.imp (pgs_cons h1 h2 hs) fun vs σ H Q h => ?_
  obtain ⟨ρ, ds, lr, q, h⟩ := h
  cases q with
  | nil => exact h.elim
  | cons q1 q2 =>
    rename_i v d vs ds
    refine ⟨v, vs, rfl, ρ, d, lr, q1, ?_⟩
    have h' : PostG X G O (ts ++ us) σ H ((g d ρ).bind (k ds)) Q := h
    cases e : g d ρ with
    | some ρ1 =>
      rw [e] at h'
      refine fun σ1 e1 e2 r1 => ⟨ρ1, ds, r1, ?_, ?_⟩
      · have : Avd G.A O σ1 = Avd G.A O σ := by
          unfold Avd
          rw [own_congr fun i hi => e1 i fun w => hu i w hi]
        rw [this]
        exact q2
      · have h2 : PostG X G O (ts ++ us) σ H (k ds ρ1) Q := h'
        cases e3 : k ds ρ1 with
        | some ρ2 =>
          rw [e3] at h2
          refine fun σ2 e4 e5 r2 => h2 σ2 (fun i hi => ?_) (e5.trans e2) r2
          rw [List.mem_append, not_or] at hi
          rw [e4 i hi.2, e1 i hi.1]
        | none => rw [e3] at h2; exact h2.elim
    | none => rw [e] at h'; exact h'.elim
theorem g_tup {es : List Expr} {kk : Nat} {pos : Pos} {k : GDs} {n : Nat} (hc : X.calm = true) (h : PGsp X G O ts es k)
    (hn : (assignEach es X.env).length = n := by rfl) (hst : (assignEach es X.env).findIdx? (·.1) = none := by rfl) : PGp X G O ts (.Tuple es kk pos) (gTp n k) := by
  refine PG.imp (PG.or (pg_tup hc h hn hst) (pg_lst hc h hn hst)) fun v σ H Q h => ?_
  obtain ⟨ρ, d, lr, q, h⟩ := h
  cases d with
  | tup ds =>
    obtain ⟨a, xs, rfl, hs, ra⟩ := q.tup_inv
    have h' : PostG X G O ts σ H (if ds.length = n then k ds ρ else none) Q := h
    split at h'
    · rename_i hl
      exact .inl ⟨a, xs, rfl, hs, by rw [ra.length]; exact hl, ρ, ds, lr, ra, h'⟩
    · exact h'.elim
  | lst ds =>
    obtain ⟨a, xs, rfl, hs, _, ra⟩ := q.lst_inv
    have h' : PostG X G O ts σ H (if ds.length = n then k ds ρ else none) Q := h
    split at h'
    · rename_i hl
      exact .inr ⟨a, xs, rfl, SqL.of hs, by rw [ra.length]; exact hl, ρ, ds, lr, ra, h'⟩
    · exact h'.elim
  | _ => exact h.elim
/-- a target's store is a step -/
theorem Tr.tgt {σ' : L2.St} (h : ∀ i, i ∉ ts → σ'[i]? = σ[i]?) (ho : ∀ i, i ∈ ts → i ∉ O) (hio : ∀ i, i ∈ ts → i ∉ io) : Tr io O σ H O σ' H :=
  ⟨Chg.refl, fun a z => .inl (by rw [own_congr fun i hi => h i fun w => ho i w hi] at z; exact z), fun i hi => h i fun w => hio i w hi⟩
def nxt (o : Option Lc) : Out (Flow' × Lc) := match o with
  | some ρ => .ok (.nx, ρ)
  | none => .stuck
def sAsg (f : ED) (g : GD) : SD := fun ρ => (f ρ).bind fun p => nxt (g p.1 p.2)
theorem asg_fin {Ol : List Nat} {o : Option Lc} {Dn : Ends} (ho : ∀ i, i ∈ ts → i ∉ O) (hio : ∀ i, i ∈ ts → i ∉ io) (h : PostS X G Ol O O σ H (nxt o) Dn) : PostG X G O ts σ H o Dn.nx := by
  cases o with
  | some ρ' => exact fun σ' e1 e2 r => h σ' H (Tr.tgt e1 ho hio) r
  | none => exact h.elim
theorem s_asg {Ol : List Nat} {tg e : Expr} {pos : Pos} {f : ED} {g : GD} (he : PEp X G O e f) (hg : PGp X G O ts tg g) (ho : ∀ i, i ∈ ts → i ∉ O := by decide) (hio : ∀ i, i ∈ ts → i ∉ io := by decide)
    (hs : swapsWithSole [tg] e pos.line X.env = pure false := by rfl) (hw : swappedStores [tg] e X.env = pure none := by rfl) (h1 : (assignEach [tg] X.env).map (·.2) = [assign tg X.env] := by rfl) :
    PSp X G Ol O O (.Assign [tg] e pos) (sAsg f g) := by
  refine PS.imp (ps_asg he hg hs hw h1) fun Dn σ H h => ?_
  obtain ⟨ρ, lr, h⟩ := h
  exact ⟨ρ, lr, PostS.step h fun d ρ1 v H1 r1 q1 c1 h1 => ⟨ρ1, d, r1, q1, asg_fin ho hio h1⟩⟩
theorem s_set {Ol : List Nat} (i : Nat) {x : Str} {e : Expr} {f : ED} {pos pos' : Pos} (hN : X.N.Nodup) (hx : L2.Loc X.env.scope x) (he : PEp X G O e f) (hi : X.N[i]? = some x := by rfl) (ho : i ∉ O := by decide) (hio : i ∉ io := by decide)
    (hs : swapsWith e (some (.Name x pos')) pos.line X.env = pure false := by rfl) (hf : X.fn x = true ∨ X.env.scope.names.lookup x = some .local := by first | exact .inl rfl | exact .inr rfl) :
    PSp X G Ol O O (.Assign [.Name x pos'] e pos) (sAsg f (gNm i)) := by
  refine PS.imp (ps_set (i := i) hN hi hx he hs hf) fun Dn σ H h => ?_
  obtain ⟨ρ, lr, h⟩ := h
  exact ⟨ρ, lr, PostS.step h fun d ρ1 v H1 r1 q1 c1 h1 => h1 _ H1 (Tr.set ho hio) (r1.set ho q1)⟩
def sPar (i j : Nat) (f : AD) : SD := fun ρ => (f ρ).bind fun p => match p.1 with
  | [d, e] => .ok (.nx, (p.2.set i (some d)).set j (some e))
  | _ => .stuck
theorem s_par {Ol : List Nat} (i j : Nat) {x y : Str} {a b : Expr} {f : AD} {px py pt pos : Pos} {kt k2 : Nat} {pt2 : Pos} (hc : X.calm = true) (hN : X.N.Nodup) (ha : PAp X G O [a, b] f)
    (hx : X.env.scope.names.lookup x = some .local := by rfl) (hy : X.env.scope.names.lookup y = some .local := by rfl) (hi : X.N[i]? = some x := by rfl) (hj : X.N[j]? = some y := by rfl) (hij : i ≠ j := by decide)
    (ho : i ∉ O := by decide) (hio : i ∉ io := by decide) (ho2 : j ∉ O := by decide) (hio2 : j ∉ io := by decide)
    (hw : swappedStores [.Tuple [.Name x px, .Name y py] kt pt] (.Tuple [a, b] k2 pt2) X.env = pure (some [x, y]) := by rfl)
    (hs : swapsWithSole [.Tuple [.Name x px, .Name y py] kt pt] (.Tuple [a, b] k2 pt2) pos.line X.env = pure false := by rfl) :
    PSp X G Ol O O (.Assign [.Tuple [.Name x px, .Name y py] kt pt] (.Tuple [a, b] k2 pt2) pos) (sPar i j f) := by
  refine PS.imp (ps_par hc hN hi hj hij hx hy ha.pa hw hs) fun Dn σ H h => ?_
  obtain ⟨ρ, lr, h⟩ := h
  refine ⟨ρ, lr, PostS.step h fun ds ρ1 vs H1 r1 q1 c1 h1 => ?_⟩
  cases q1 with
  | nil => exact h1.elim
  | cons q1 t1 =>
    cases t1 with
    | nil => exact h1.elim
    | cons q2 t2 =>
      cases t2 with
      | cons _ _ => exact h1.elim
      | nil =>
        refine ⟨_, _, rfl, h1 _ H1 ((Tr.set ho hio).trans (Tr.set ho2 hio2)) ?_⟩
        exact (r1.set ho q1).set ho2 (by rw [avd_set ho]; exact q2)
end
/-! ### what a for walks -/
/-- at each later heap where the items stand, the walk gives them, one after the other -/
def RI {io oe : List Nat} (X : Cx) (G : Pc io oe) (O : List Nat) (σ : L2.St) (H : Hp) (J : It) (ds : List D) : Prop :=
  ∀ (Bv : Addr → Prop) (H' : Hp), Keep (Avd G.A O σ) Bv H H' →
    (∀ (i : Nat) (d : D), ds[i]? = some d → J.go i H' ∧ ∀ x H'', J.yld i H' x H'' → Same H' H'' ∧ Rep X.K Bv H'' x d) ∧ J.stop ds.length H'
def PIp {io oe : List Nat} (X : Cx) (G : Pc io oe) (O : List Nat) (tg e : Expr) (f : AD) : Prop := PI X tg e (tG X G O (RI X G O) f)
section
variable {X : Cx} {io oe : List Nat} {G : Pc io oe} {O ts us : List Nat} {σ : L2.St} {H : Hp}
theorem PI.imp {tg e : Expr} {t t' : TI} (h : PI X tg e t) (w : ∀ σ H Q, t' σ H Q → t σ H Q) : PI X tg e t' := ⟨fun pins s σ H R I q => h.run pins s σ H R I (w σ H R q)⟩
theorem PI.or {tg e : Expr} {t t' : TI} (h : PI X tg e t) (h' : PI X tg e t') : PI X tg e (fun σ H Q => t σ H Q ∨ t' σ H Q) := ⟨fun pins s σ H R I q => by
  rcases q with q | q
  · exact h.run pins s σ H R I q
  · exact h'.run pins s σ H R I q⟩
/-- over a list, a tuple -/
def iSeq (f : ED) : AD := fun ρ => (f ρ).bind fun p => match p.1 with
  | .tup ds => .ok (ds, p.2)
  | .lst ds => .ok (ds, p.2)
  | .fl ds => .ok (ds, p.2)
  | _ => .stuck
theorem ri_list {a : Addr} {xs : List V} {ds : List D} (h : H a = some (.lst xs)) (n : ¬ Avd G.A O σ a) (q : RepAll X.K (Avd G.A O σ) H xs ds) : RI X G O σ H (Itl X.K a) ds := by
  intro Bv H' k
  have h' := (k.lst a xs h n).1
  refine ⟨fun i d e => ?_, xs, SqL.of h', by rw [q.length]; exact Nat.le_refl _⟩
  obtain ⟨v, ev, qv⟩ := q.get e
  refine ⟨⟨xs, v, SqL.of h', ev⟩, fun x H'' y => ?_⟩
  obtain ⟨rfl, y⟩ := y
  have e2 := y xs (SqL.of h')
  rw [ev] at e2
  cases e2
  exact ⟨Same.refl _, qv.keep k⟩
theorem ri_flist {a : Addr} {xs : List V} {ds : List D} (h : SqF X.K H a xs) (q : RepAll X.K (Avd G.A O σ) H xs ds) : RI X G O σ H (Itl X.K a) ds := by
  intro Bv H' k
  have h' := (k.sqF h).sq
  refine ⟨fun i d e => ?_, xs, h', by rw [q.length]; exact Nat.le_refl _⟩
  obtain ⟨v, ev, qv⟩ := q.get e
  refine ⟨⟨xs, v, h', ev⟩, fun x H'' y => ?_⟩
  obtain ⟨rfl, y⟩ := y
  have e2 := y xs h'
  rw [ev] at e2
  cases e2
  exact ⟨Same.refl _, qv.keep k⟩
theorem ri_tuple {a : Addr} {xs : List V} {ds : List D} (h : SqT X.K H a xs) (q : RepAll X.K (Avd G.A O σ) H xs ds) : RI X G O σ H (Itt X.K a) ds := by
  intro Bv H' k
  have h' := k.sqT h
  refine ⟨fun i d e => ?_, xs, h', by rw [q.length]; exact Nat.le_refl _⟩
  obtain ⟨v, ev, qv⟩ := q.get e
  refine ⟨⟨xs, v, h', ev⟩, fun x H'' y => ?_⟩
  obtain ⟨rfl, y⟩ := y
  have e2 := y xs h'
  rw [ev] at e2
  cases e2
  exact ⟨Same.refl _, qv.keep k⟩
theorem i_seq {tg e : Expr} {f : ED} (he : PEp X G O e f) : PIp X G O tg e (iSeq f) := by
  refine PI.imp (PI.or (pi_list he) (pi_tup he)) fun σ H R h => ?_
  obtain ⟨ρ, lr, h⟩ := h
  have h' : Post X G O σ H (RI X G O σ) ((f ρ).bind fun p => match p.1 with | .tup ds => .ok (ds, p.2) | .lst ds => .ok (ds, p.2) | .fl ds => .ok (ds, p.2) | _ => .stuck) R := h
  cases ef : f ρ with
  | err x ρ1 =>
    rw [ef] at h'
    exact .inl ⟨ρ, lr, by rw [ef]; exact h'⟩
  | stuck =>
    rw [ef] at h'
    exact h'.elim
  | ok p =>
    obtain ⟨d, ρ1⟩ := p
    rw [ef] at h'
    cases d with
    | tup ds =>
      refine .inr ⟨ρ, lr, ?_⟩
      rw [ef]
      intro v H1 c1 r1 q1
      obtain ⟨a, xs, rfl, hs, ra⟩ := Rep.tup_inv q1
      exact ⟨a, rfl, ⟨xs, hs⟩, h' _ H1 c1 r1 (ri_tuple hs ra)⟩
    | lst ds =>
      refine .inl ⟨ρ, lr, ?_⟩
      rw [ef]
      intro v H1 c1 r1 q1
      obtain ⟨a, xs, rfl, hs, n, ra⟩ := Rep.lst_inv q1
      exact ⟨a, rfl, ⟨xs, SqL.of hs⟩, h' _ H1 c1 r1 (ri_list hs n ra)⟩
    | fl ds =>
      refine .inl ⟨ρ, lr, ?_⟩
      rw [ef]
      intro v H1 c1 r1 q1
      obtain ⟨a, xs, rfl, hs, ra⟩ := Rep.fl_inv q1
      exact ⟨a, rfl, ⟨xs, hs.sq⟩, h' _ H1 c1 r1 (ri_flist hs ra)⟩
    | _ => exact h'.elim
/-- range(n), range(a, b) -/
def rngD (a b : Int) : List D := (List.range (b - a).toNat).map fun (i : Nat) => .int (a + i)
def rngOk (i : Int) : Bool := decide (-(2 ^ 62) ≤ i) && decide (i < 2 ^ 62)
def iRn1 (f : AD) : AD := fun ρ => (f ρ).bind fun p => match p.1 with
  | [.int j] => if rngOk j then .ok (rngD 0 j, p.2) else .stuck
  | _ => .stuck
def iRn2 (f : AD) : AD := fun ρ => (f ρ).bind fun p => match p.1 with
  | [.int i, .int j] => if rngOk i && rngOk j then .ok (rngD i j, p.2) else .stuck
  | _ => .stuck
theorem ri_range (a b : Int) : RI X G O σ H (Itr a (b - a).toNat) (rngD a b) := by
  intro Bv H' k
  refine ⟨fun i d e => ?_, by simp only [rngD, List.length_map, List.length_range]; exact Nat.le_refl _⟩
  unfold rngD at e
  rw [List.getElem?_map] at e
  cases e1 : (List.range (b - a).toNat)[i]? with
  | none => rw [e1] at e; cases e
  | some j =>
    rw [e1] at e
    cases e
    obtain ⟨hl, ej⟩ := List.getElem?_eq_some_iff.mp e1
    rw [List.length_range] at hl
    rw [List.getElem_range] at ej
    subst ej
    refine ⟨hl, fun x H'' y => ?_⟩
    obtain ⟨rfl, rfl⟩ := y
    exact ⟨Same.refl _, .int _⟩
theorem i_range1 {tg a : Expr} {f : AD} {p pos : Pos} (hm : X.mg "range" = none) (ha : PAp X G O [a] f) (hg : Gl X "range" := by rfl) (hs : starEach [a] X.env = [(false, eval a X.env)] := by rfl) : PIp X G O tg (.Call (.Name "range" p) [a] [] pos) (iRn1 f) := by
  refine PI.imp (pi_range1 hg hm ha.pa hs) fun σ H R h => ?_
  obtain ⟨ρ, lr, h⟩ := h
  refine ⟨ρ, lr, h.step fun ds ρ1 vs H1 r1 q1 c1 h1 => ?_⟩
  dsimp only at h1
  split at h1
  · rename_i j
    split at h1
    · rename_i hz
      obtain ⟨v, rfl, q⟩ := q1.one
      have e := q.int_inv
      subst e
      unfold rngOk at hz
      rw [Bool.and_eq_true, decide_eq_true_eq, decide_eq_true_eq] at hz
      refine ⟨j, rfl, hz.1, hz.2, ?_⟩
      have e : j.toNat = (j - 0).toNat := by rw [Int.sub_zero]
      rw [e]
      exact h1 _ H1 Chg.refl r1 (ri_range 0 j)
    · exact h1.elim
  · exact h1.elim
theorem i_range2 {tg a b : Expr} {f : AD} {p pos : Pos} (hm : X.mg "range" = none) (ha : PAp X G O [a, b] f) (hg : Gl X "range" := by rfl) (hs : starEach [a, b] X.env = [(false, eval a X.env), (false, eval b X.env)] := by rfl) (hs2 : starEach [b] X.env = [(false, eval b X.env)] := by rfl) :
    PIp X G O tg (.Call (.Name "range" p) [a, b] [] pos) (iRn2 f) := by
  refine PI.imp (pi_range2 hg hm ha.pa hs hs2) fun σ H R h => ?_
  obtain ⟨ρ, lr, h⟩ := h
  refine ⟨ρ, lr, h.step fun ds ρ1 vs H1 r1 q1 c1 h1 => ?_⟩
  dsimp only at h1
  split at h1
  · rename_i i j
    split at h1
    · rename_i hz
      obtain ⟨v, w, rfl, q, q2⟩ := q1.two
      have e := q.int_inv
      have e2 := q2.int_inv
      subst e e2
      unfold rngOk at hz
      simp only [Bool.and_eq_true, decide_eq_true_eq] at hz
      exact ⟨i, j, rfl, ⟨hz.1.1, hz.1.2, hz.2.1, hz.2.2⟩, h1 _ H1 Chg.refl r1 (ri_range i j)⟩
    · exact h1.elim
  · exact h1.elim
end
/-! ### for, while -/
def forD (g : GD) (b : SD) : List D → Lc → Out (Flow' × Lc)
  | [], ρ => .ok (.nx, ρ)
  | d :: ds, ρ => match g d ρ with
    | none => .stuck
    | some ρ1 => (b ρ1).bind fun p => match p.1 with
      | .nx => forD g b ds p.2
      | .ct => forD g b ds p.2
      | .bk => .ok (.nx, p.2)
      | .rt d => .ok (.rt d, p.2)
def sFor (f : AD) (g : GD) (b : SD) : SD := fun ρ => (f ρ).bind fun p => forD g b p.1 p.2
section
variable {X : Cx} {io oe : List Nat} {G : Pc io oe} {O Ol Om ts : List Nat} {σ : L2.St} {H : Hp}
theorem s_for {tg iter : Expr} {body : List Stmt} {f : AD} {g : GD} {b : SD} {pos : Pos} (hp : PassesOwn (model X.prog X.w) X.A X.env X.xe) (hc : X.calm = true) (hi : PIp X G O tg iter f) (hg : PGp X G O ts tg g) (hb : PSsp X G O O O body b)
    (ho : ∀ i, i ∈ ts → i ∉ O := by decide) (hio : ∀ i, i ∈ ts → i ∉ io := by decide) (hs : ∀ x, foldedSetIterable iter X.env x = pure x := by intro _; rfl) : PSp X G Ol O O (.For tg iter body [] pos) (sFor f g b) := by
  refine PS.imp (ps_for hp hc hi hg hb hs) fun Dn σ H h => ?_
  obtain ⟨ρ, lr, h⟩ := h
  refine ⟨ρ, lr, PostS.step h fun ds ρ1 J H1 r1 q1 c1 h1 => ?_⟩
  refine ⟨fun i m σi Hi => ∃ ρi, m = ds.length - i ∧ i ≤ ds.length ∧ Tr io O σ H1 O σi Hi ∧ LocR X.K G.A O Hi σi ρi ∧ PostS X G Ol O O σi Hi (forD g b (ds.drop i) ρi) Dn,
    ⟨ds.length, ρ1, by omega, Nat.zero_le _, Tr.refl, r1, h1⟩, ?_⟩
  rintro i m σi Hi ⟨ρi, rfl, hle, t, ri, hi⟩
  obtain ⟨q2, q3⟩ := q1 (Avd G.A O σi) Hi (r1.keepT t)
  by_cases hlt : i < ds.length
  · have e : ds[i]? = some ds[i] := List.getElem?_eq_getElem hlt
    obtain ⟨go, yl⟩ := q2 i _ e
    refine .inr ⟨go, fun σ' H' => ∃ ρ', Tr io O σ H1 O σ' H' ∧ LocR X.K G.A O H' σ' ρ' ∧ PostS X G Ol O O σ' H' (forD g b (ds.drop (i + 1)) ρ') Dn, fun σ' H' n => ?_, fun x H' y => ?_⟩
    · obtain ⟨ρ', t', r', h'⟩ := n
      exact ⟨ds.length - (i + 1), by omega, ρ', rfl, hlt, t', r', h'⟩
    · obtain ⟨sm, qx⟩ := yl x H' y
      have ri' := ri.same sm
      refine ⟨ρi, ds[i], ri', qx, ?_⟩
      have hi2 : PostS X G Ol O O σi H' (forD g b (ds.drop i) ρi) Dn := PostS.from (Tr.of_chg (Chg.of_same sm)) hi
      rw [List.drop_eq_getElem_cons hlt] at hi2
      cases eg : g ds[i] ρi with
      | none =>
        have : forD g b (ds[i] :: ds.drop (i + 1)) ρi = .stuck := by
          show (match g ds[i] ρi with | none => _ | some ρ1 => _) = _
          rw [eg]
        rw [this] at hi2
        exact hi2.elim
      | some ρ2 =>
        have : forD g b (ds[i] :: ds.drop (i + 1)) ρi = (b ρ2).bind fun p => match p.1 with
          | .nx => forD g b (ds.drop (i + 1)) p.2
          | .ct => forD g b (ds.drop (i + 1)) p.2
          | .bk => .ok (.nx, p.2)
          | .rt d => .ok (.rt d, p.2) := by
          show (match g ds[i] ρi with | none => _ | some ρ1 => _) = _
          rw [eg]
        rw [this] at hi2
        refine fun σ2 e1 e2 r2 => ⟨ρ2, r2, ?_⟩
        have t2 : Tr io O σi Hi O σ2 H' := (Tr.of_chg (Chg.of_same sm)).trans (Tr.tgt e1 ho hio)
        have hi3 := PostS.from (Tr.tgt e1 ho hio) hi2
        refine PostS.seq (O' := O) (Ol' := O) hi3 (fun ρ3 σ3 H3 t3 r3 q => ⟨ρ3, (t.trans t2).trans t3, r3, q⟩) (fun ρ3 σ3 H3 t3 r3 q => q σ3 H3 Tr.refl r3) (fun ρ3 σ3 H3 t3 r3 q => ⟨ρ3, (t.trans t2).trans t3, r3, q⟩)
          fun d ρ3 v σ3 H3 t3 r3 rv q => q v σ3 H3 Tr.refl r3 rv
  · have e : i = ds.length := by omega
    subst e
    rw [List.drop_length] at hi
    exact .inl ⟨q3, hi σi Hi Tr.refl ri⟩
def whD (c : TD) (b : SD) : Nat → Lc → Out (Flow' × Lc)
  | 0, _ => .stuck
  | n + 1, ρ => (c ρ).bind fun p => if p.1 = true then (b p.2).bind fun q => match q.1 with
      | .nx => whD c b n q.2
      | .ct => whD c b n q.2
      | .bk => .ok (.nx, q.2)
      | .rt d => .ok (.rt d, q.2)
    else .ok (.nx, p.2)
/-- more turns than any loop here takes -/
def fuel : Nat := 2 ^ 64
def sWhile (c : TD) (b : SD) : SD := whD c b fuel
theorem s_while {c : Expr} {body : List Stmt} {t : TD} {b : SD} {pos : Pos} (hp : PassesOwn (model X.prog X.w) X.A X.env X.xe) (hc : PTp X G O c t) (hb : PSsp X G O O O body b) : PSp X G Ol O O (.While c body [] pos) (sWhile t b) := by
  refine PS.imp (ps_while hp hc hb) fun Dn σ H h => ?_
  obtain ⟨ρ, lr, h⟩ := h
  refine ⟨fun m σi Hi => ∃ ρi, LocR X.K G.A O Hi σi ρi ∧ PostS X G Ol O O σi Hi (whD t b m ρi) Dn, ⟨fuel, ρ, lr, h⟩, ?_⟩
  rintro m σi Hi ⟨ρi, ri, hi⟩
  cases m with
  | zero => exact hi.elim
  | succ m =>
    refine ⟨ρi, ri, PostS.step (show PostS X G Ol O O σi Hi ((t ρi).bind _) Dn from hi) fun d ρ1 v H1 r1 q1 c1 h1 => ?_⟩
    subst q1
    cases v with
    | false => exact h1 σi H1 Tr.refl r1
    | true =>
      refine ⟨fun σ' H' => ∃ ρ', LocR X.K G.A O H' σ' ρ' ∧ PostS X G Ol O O σ' H' (whD t b m ρ') Dn, fun σ' H' n => ⟨m, Nat.lt_succ_self m, n⟩, ρ1, r1, ?_⟩
      exact PostS.seq (O' := O) (Ol' := O) (show PostS X G Ol O O σi H1 ((b ρ1).bind _) Dn from h1) (fun ρ3 σ3 H3 t3 r3 q => ⟨ρ3, r3, q⟩) (fun ρ3 σ3 H3 t3 r3 q => q σ3 H3 Tr.refl r3) (fun ρ3 σ3 H3 t3 r3 q => ⟨ρ3, r3, q⟩)
        fun d ρ3 v σ3 H3 t3 r3 rv q => q v σ3 H3 Tr.refl r3 rv
end
end Pl
set_option maxHeartbeats 4000000
namespace Pl
open PySem PySem.Spec L2
open PyProof.Rows (envOfC IntsAre AllBare)
/-! ### a def's promise where no repr is under way -/
structure FnG (P : Program) (w : World) (K : PySem.W.Frag) (mg : Str → Option Value) (base : Heap) (C : CXT) (k : Nat) (f : Addr) (fd : FuncData) (ps : List Str) (sp : Sp) : Prop where
  ln : ∀ vs H Q E, sp vs H Q E → vs.length = ps.length
  go : ∀ (A : Around) (ou : List Env) (s : Shared) (H : Hp) (ar : Args) (us : List Value) (vs : List V) (Q : VK) (E : XK), Room k A → A.guards = some [] → Env0 P w K mg base A ou s H → BindsTo s fd ar (ps.zip us) → Vals vs us → sp vs H Q E →
    codeAny (model P w) A (.call (.ref f) ar) (CR C ou P w H s Q E) s
section
variable {P : Program} {w : World} {K : PySem.W.Frag} {mg mb : Str → Option Value} {base : Heap} {C : CXT} {x qual : Str} {params : Arguments} {body : List Stmt} {scope : Scope} {f : Addr} {fd : FuncData} {dvs : List V} {kws : List (Str × V)}
theorem FnG.mono {j k : Nat} {ps : List Str} {sp : Sp} (F : FnG P w K mg base C j f fd ps sp) (h : j ≤ k) : FnG P w K mg base C k f fd ps sp := ⟨F.ln, fun A ou s H ar us vs Q E hr => F.go A ou s H ar us vs Q E (hr.mono h)⟩
theorem FnG.imp {k : Nat} {ps : List Str} {sp sp' : Sp} (F : FnG P w K mg base C k f fd ps sp) (h : ∀ vs H Q E, sp' vs H Q E → sp vs H Q E) : FnG P w K mg base C k f fd ps sp' :=
  ⟨fun vs H Q E q => F.ln vs H Q E (h _ _ _ _ q), fun A ou s H ar us vs Q E hr hg e b v q => F.go A ou s H ar us vs Q E hr hg e b v (h _ _ _ _ q)⟩
theorem deeper_guards {A : Around} {e : Env} : (A.deeper e).guards = A.guards := by rfl
theorem fng_of {N ps : List Str} {k : Nat} {sp : Sp} (F : FunD K x qual params body scope dvs kws f fd) (S : FnScope N ps scope) (ln : ∀ vs H Q E, sp vs H Q E → vs.length = ps.length)
    (hb : ∀ (cdv : Value) (A : Around) (ou : List Env) (s : Shared) (H : Hp) (vs : List V) (Q : VK) (E : XK), Room k (A.deeper (envOfC qual scope s.heap.objs.size f cdv)) → (A.deeper (envOfC qual scope s.heap.objs.size f cdv)).guards = some [] → sp vs H Q E →
      ∃ t, PSs (cxOf C P w K mg base N qual scope f cdv A ou s H E) body t ∧ t { nx := fun _ G => Q .non G, rt := Q } (L2.start N vs) H) : FnG P w K mg base C (k + 1) f fd ps sp := by
  obtain ⟨oc, od, dV, kV, doc, pm, an, cdv, ct, osl, rfl, lk, hcd, _, _⟩ := F.ex
  refine ⟨ln, fun A ou s H ar us vs Q E hr hg e0 hbd rv q => ?_⟩
  have inK : K.In s.heap := e0.mod.kin.keeps fun b o z => (e0.bs b o z).1
  have nolim : s.heap.NoLimit := e0.mod.nolimit.keeps fun b o z => (e0.bs b o z).1
  have kinds : ∀ y ∈ ps.zip us, scope.names.lookup y.1 = some .local ∨ (scope.names.lookup y.1 = some .cell ∧ ((cellsFrom (s.heap.objs.size + 1) scope.names []).lookup y.1).isSome = true) := by
    rintro ⟨n, v⟩ hy
    exact (S.par n (List.of_mem_zip hy).1).imp id fun z => ⟨z, PySem.W.cellsFrom_some _ _ _ (.inl z)⟩
  refine codeAny_call_function hr.depth (inK _ _ lk) rfl S.co S.gen rfl (PySem.W.codeRec_of inK hcd) (hbd _ _ _ _ ?_)
  refine wpAny_newFunctionEnv_cells S.kind kinds fun env ee s1 y => ?_
  subst ee
  refine ⟨nolim.keeps y.toInCall.keep, codeAny_func ?_⟩
  obtain ⟨t, pt, tt⟩ := hb cdv A ou s H vs Q E (hr.deeper _) (deeper_guards.trans hg) q
  have I0 := inv_start (CX := C) (E := E) S hr.hd e0 (ln _ _ _ _ q) rv y
  refine wpAny_mono (pt.run [] s1 (L2.start N vs) H _ I0 tt) (fun fl s' z => ?_) fun e s' z => z
  cases fl with
  | ret u => exact let ⟨v, σ', H', J, r, z2⟩ := z; ⟨v, H', J.os, J.bare, J.base, J.hok, r, z2⟩
  | next => exact let ⟨σ', H', J, z2⟩ := z; ⟨V.non, H', J.os, J.bare, J.base, J.hok, rfl, z2⟩
  | brk => exact let ⟨_, _, _, z2⟩ := z; False.elim z2
  | cont => exact let ⟨_, _, _, z2⟩ := z; False.elim z2
end
section
variable {X : Cx} {C : CXT} {k : Nat} {f : Addr} {fd : FuncData} {ps : List Str} {sp : Sp} {E : L2.St → XK} {x : Str} {p pos : Pos} {e : Expr} {es : List Expr} {t : TA}
/-- a call -/
theorem pe_callG (F : FnG X.prog X.w X.K X.mg X.base C k f fd ps sp) (hr : Room k X.A) (gd : X.A.guards = some []) (hg : Gl X x) (hm : X.mg x = some (.ref f)) (hk : PySem.W.keepIn X.K (.ref f) = true) (hb : Binds X.K fd ps []) (hx : ∀ σ, PassesAt C X σ (E σ))
    (ha : PA X (e :: es) t) (hd : (x == ("__debug__" : Str)) = false) (he : starEach (e :: es) X.env = (false, eval e X.env) :: starEach es X.env) (hp : (backTo pos (starEach es X.env)).any (·.1) = false) :
    PE X (.Call (.Name x p) (e :: es) [] pos) (tCallS sp E t) := by
  refine ⟨fun pins s σ H Q I h => wpAny_Call_Name_kw (ld_glob I hg hm ?_ hd)⟩
  refine PySem.W.callWith_K (h₀ := X.base) I.ok.mod.kin hk (thn (ha.run pos pins s σ H _ I h) fun us s1 hh => ?_) he hp
  obtain ⟨vs, H1, I1, r, q⟩ := hh
  have lu : (us ++ []).length = ps.length := by rw [List.append_nil, ← r.length]; exact F.ln _ _ _ _ q
  have bb := hb s1 us I1.kIn lu
  rw [List.append_nil] at bb
  refine ⟨I1.kIn, wpAny_call (codeAny_mono (F.go X.A X.stack s1 H1 ⟨us, []⟩ us vs Q (E σ) hr gd I1.env0 bb r q) fun z s' hq => ?_)⟩
  cases z with
  | error y => exact hx σ pins H1 s1 y s' I1 hq
  | ok fl =>
    cases fl with
    | ret u => exact I1.after hq
    | next => exact hq.elim
    | brk => exact hq.elim
    | cont => exact hq.elim
end
/-! ### the law's end -/
section
variable {P : Program} {w : World} {K : PySem.W.Frag} {mg mb : Str → Option Value} {C : CXT} {k : Nat} {fa a : Addr} {fd : FuncData} {x : Str} {sp : Sp} {s : Shared} {vs : List Value} {ns : List Int}
theorem law_callG (KX : K.In s.heap) (hns : s.heap.Ns mainGlobals mg) (hb : s.heap.Ns builtinsNs mb) (hbb : ∀ x : Str, x ≠ "__name__" → mb x = bootBuiltins x) (hlim : s.heap.NoLimit) (hg : s.gens = #[])
    (ha : s.heap.get? a = some { cls := .type "list", data := .seq vs.toArray }) (hi : IntsAre vs ns) (hl : ns.length ≤ sizeLine) (hr : Room k callerA)
    (F : ∀ base : Heap, K.In base → base.Ns mainGlobals mg → FnG P w K mg base C k fa fd [x] sp) (hbd : ∀ (s : Shared) (u : Value), BindsTo s fd ⟨[u], []⟩ [(x, u)])
    (hsp : ∀ H : Hp, Only H → SqL K H a (ns.map V.int) → sp [.ref a] H (fun v _ => v = .bl true) fun _ _ _ => False) (hC : ∀ H e s', C [] H s (fun _ _ _ => False) e s' → False) :
    codeAny (model P w) callerA (.call (.ref fa) ⟨[.ref a], []⟩) (fun r s' => r = .ok (.ret (.bool true)) ∧ OldK s.heap s'.heap ∧ s'.os = s.os ∧ AllBare s'.gens) s := by
  have rv := vals_ints hi
  have main : ∀ H : Hp, Only H → SqL K H a (ns.map V.int) → HOk P w H s.heap → (∀ b, H b ≠ none → b = a) → (H a ≠ none → K.lookup a = none) →
      codeAny (model P w) callerA (.call (.ref fa) ⟨[.ref a], []⟩) (fun r s' => r = .ok (.ret (.bool true)) ∧ OldK s.heap s'.heap ∧ s'.os = s.os ∧ AllBare s'.gens) s := by
    intro H only sq hok at_a noK
    have free : ∀ {b : Addr} {o : Obj}, s.heap.get? b = some o → (b = a → H a = none) → (hidT s.heap H).get? b = some o := fun {b o} q n => hidT_get q (by
      cases z : H b with
      | none => rfl
      | some u =>
        have eb := at_a b (by rw [z]; exact fun q => by cases q)
        have y := n eb
        rw [← eb, z] at y
        cases y)
    have nsd : ∀ {b : Addr} {m : Str → Option Value}, s.heap.Ns b m → (hidT s.heap H).Ns b m := by
      rintro b m ⟨o, es, ep, q, d, r⟩
      refine ⟨o, es, ep, free q fun z => ?_, d, r⟩
      subst z
      rw [ha] at q
      cases q
      cases d
    have inK : K.In (hidT s.heap H) := fun b o q => free (KX b o q) fun z => by
      cases y : H a with
      | none => rfl
      | some u =>
        have := noK (by rw [y]; exact fun q => by cases q)
        rw [z, this] at q
        cases q
    have md : Mod K mg (hidT s.heap H) := ⟨inK, nsd hns, ⟨mb, nsd hb, hbb⟩, hlim.imp fun m z => ⟨nsd z.1, z.2⟩⟩
    have e0 : Env0 P w K mg (hidT s.heap H) callerA [] s H := ⟨rfl, md, fun b o z => of_hidT z, Nat.le_of_eq (hidT_size _ _), trivial, fun b z => (nomatch z), hok, .of_eq hg⟩
    have run := (F _ inK (nsd hns)).go callerA [] s H ⟨[.ref a], []⟩ [.ref a] [.ref a] _ _ hr rfl e0 (hbd s (.ref a)) (.cons rfl .nil) (hsp H only sq)
    refine codeAny_mono run fun r s' z => ?_
    cases r with
    | error e => exact (hC H e s' z).elim
    | ok fl =>
      cases fl with
      | next => exact z.elim
      | brk => exact z.elim
      | cont => exact z.elim
      | ret u =>
        obtain ⟨v, H', os, bare, un, hok', rr, q⟩ := z
        have ev : v = .bl true := q
        subst ev
        obtain rfl : u = Value.bool true := rr
        refine ⟨rfl, OldK.of_keep fun b o z => ?_, os, bare⟩
        rcases hob : H b with _ | u2
        · exact un.keep b o z hob (fun y => (nomatch y)) (by simp)
        · obtain n | ⟨ob, xs, y⟩ := only b
          · rw [hob] at n; cases n
          · obtain ⟨g1, _⟩ := hok b _ y
            obtain ⟨g2, _⟩ := hok' b _ (un.frzs b ob _ y)
            rw [z] at g1
            cases g1
            exact g2
  rcases hk : K.lookup a with _ | ob
  · let ob : Obj := { cls := .type "list", data := .seq vs.toArray }
    have at_ne : ∀ b, b ≠ a → (if b = a then some (HO.frz ob (.lst (ns.map V.int))) else none) = none := fun b z => if_neg z
    refine main (fun b => if b = a then some (.frz ob (.lst (ns.map V.int))) else none) (fun b => ?_) (.inl (.inr ⟨ob, if_pos rfl⟩)) (fun b u z => ?_) (fun b z => Classical.byContradiction fun y => z (at_ne b y)) fun _ => hk
    · by_cases y : b = a
      · exact .inr ⟨_, _, if_pos y⟩
      · exact .inl (at_ne b y)
    · by_cases y : b = a
      · subst y
        have z2 : (if b = b then some (HO.frz ob (.lst (ns.map V.int))) else none) = some u := z
        rw [if_pos rfl] at z2
        cases z2
        exact ⟨ha, by rw [List.length_map]; exact hl, vs, _, rv, ha⟩
      · rw [show (fun b => if b = a then some (HO.frz ob (.lst (ns.map V.int))) else none) b = none from at_ne b y] at z
        cases z
  · have q := KX a ob hk
    rw [ha] at q
    cases q
    exact main (fun _ => none) (fun _ => .inl rfl) (.inr ⟨_, vs.toArray, _, hk, rfl, rfl, rfl, by rw [List.size_toArray, hi.length]; exact hl, by simpa using rv⟩) (fun b u z => by cases z) (fun b z => (z rfl).elim) fun z => (z rfl).elim
end
theorem walkG {l : PySem.W.OpenLaw} {n k : Nat} {q : Program} {loose : List Str} {XP : (Str → Option Value) → Heap → Prop} {YP : World → Heap → Prop} {d : DefRec} {C : CXT} {x : Str} (hn : l.most = some n) (hn2 : n ≤ sizeLine) (hdf : d.params.defaults = []) (hr : Room k callerA)
    (F : ∀ (w : World) (mg : Str → Option Value) (fa : Addr) (h : Heap), YP w h → h.Ns mainGlobals mg → mg d.name = some (.ref fa) → ∃ (K : PySem.W.Frag) (fd : FuncData) (sp : Sp), K.In h ∧ (∀ (s : Shared) (u : Value), BindsTo s fd ⟨[u], []⟩ [(x, u)]) ∧
      (∀ (H : Hp) (a : Addr) (ns : List Int), ns.length ≤ n → Only H → SqL K H a (ns.map V.int) → sp [.ref a] H (fun v _ => v = .bl true) fun _ _ _ => False) ∧ ∀ base : Heap, K.In base → base.Ns mainGlobals mg → FnG l.prog w K mg base C k fa fd [x] sp)
    (hC : ∀ (H : Hp) (s : Shared) (e : Value) (s' : Shared), C [] H s (fun _ _ _ => False) e s' → False) : PySem.W.WalkO q loose XP YP l.row.toRowW d [] (fun f vs => PySem.call f vs) := by
  refine Att.attach_call hn hdf fun w s0 s1 mg mb fa o pm cd doc a vs ns G Y ho hd hcd hmg hobj hints hlen hg => ?_
  obtain ⟨K, fd, sp, KX, bb, hsp, FF⟩ := F w mg fa _ Y G.T.g hmg
  exact law_callG KX G.T.g G.T.b G.T.builtins G.T.nolimit hg hobj hints (Nat.le_trans hlen hn2) hr FF bb (fun H o S => hsp H a ns hlen o S) fun H e s' => hC H s1 e s'
end Pl
set_option maxHeartbeats 4000000
namespace Pl
open PySem PySem.Spec L2
/-! ### what a def promises -/
abbrev sl (vs : List V) : L2.St := vs.map some
abbrev FD := List D → Out (D × Lc)
def outs (io : List Nat) (ρ : Lc) : Lc := io.map fun i => (ρ[i]?).join
def PostF (K : PySem.W.Frag) (mg : Str → Option Value) (A : Addr → Prop) (io : List Nat) (vs : List V) (H : Hp) (o : Out (D × Lc)) (Q : VK) (E : XK) : Prop :=
  match o with
  | .ok p => ∀ v H' ρ, Chg (Own io (sl vs)) H H' → LocR K A io H' (sl vs) ρ → outs io ρ = p.2 → Rep K (Avd A io (sl vs)) H' v p.1 → Q v H'
  | .err x os => ∀ cls dd H' ρ, Chg (Own io (sl vs)) H H' → LocR K A io H' (sl vs) ρ → outs io ρ = os → ErrR K mg x cls dd H' → E cls dd H'
  | .stuck => False
/-- the def that does F to its arguments' data; io: the places of the lists that it changes -/
def spP (K : PySem.W.Frag) (mg : Str → Option Value) (io : List Nat) (n : Nat) (F : FD) : Sp := fun vs H Q E => vs.length = n ∧ ∃ A ds, LocR K A io H (sl vs) (ds.map some) ∧ PostF K mg A io vs H (F ds) Q E
/-- a body run at the arguments -/
def runB (n : Nat) (io : List Nat) (b : SD) : FD := fun ds => match b (ds.map some ++ List.replicate (n - ds.length) none) with
  | .ok (.rt d, ρ) => .ok (d, outs io ρ)
  | .ok (.nx, ρ) => .ok (.non, outs io ρ)
  | .ok _ => .stuck
  | .err x ρ => .err x (outs io ρ)
  | .stuck => .stuck
/-- the slots at io as a caller sees them -/
def onlyIo (n : Nat) (io : List Nat) (ρ : Lc) : Lc := (List.range n).map fun i => if i ∈ io then (ρ[i]?).join else none
theorem onlyIo_at {n : Nat} {io : List Nat} {ρ : Lc} {i : Nat} (hi : i < n) : (onlyIo n io ρ)[i]? = some (if i ∈ io then (ρ[i]?).join else none) := by
  unfold onlyIo
  rw [List.getElem?_map, List.getElem?_range hi]
  rfl
section
variable {K : PySem.W.Frag} {mg : Str → Option Value} {A : Addr → Prop} {io : List Nat} {vs : List V} {H H' : Hp} {σ' : L2.St} {ρ : Lc}
theorem LocR.back (r : LocR K A io H' σ' ρ) (hio : ∀ i, i ∈ io → i < vs.length) (hs : ∀ i, i ∈ io → σ'[i]? = (sl vs)[i]?) : LocR K A io H' (sl vs) (onlyIo vs.length io ρ) ∧ outs io (onlyIo vs.length io ρ) = outs io ρ ∧ Avd A io (sl vs) = Avd A io σ' := by
  have e : Own io (sl vs) = Own io σ' := own_congr fun i hi => (hs i hi).symm
  have ea : Avd A io (sl vs) = Avd A io σ' := by unfold Avd; rw [e]
  refine ⟨⟨by simp [onlyIo, sl], r.dom, fun i hi => ?_, fun i j a hi hj e1 e2 => r.inj i j a hi hj ((hs i hi).trans e1) ((hs j hj).trans e2), fun i d hi ei => ?_⟩, ?_, ea⟩
  · obtain ⟨a, xs, ds, e1, e2, e3, n, q⟩ := r.own i hi
    refine ⟨a, xs, ds, (hs i hi).symm.trans e1, ?_, e3, n, by rw [ea]; exact q⟩
    rw [onlyIo_at (hio i hi), if_pos hi, e2]
    rfl
  · by_cases hl : i < vs.length
    · rw [onlyIo_at hl, if_neg hi] at ei
      cases ei
    · rw [List.getElem?_eq_none (by simp [onlyIo]; omega)] at ei
      cases ei
  · unfold outs
    refine List.map_congr_left fun i hi => ?_
    rw [onlyIo_at (hio i hi), if_pos hi]
    rfl
end
section
variable {P : Program} {w : World} {K : PySem.W.Frag} {mg : Str → Option Value} {base : Heap} {x qual : Str} {params : Arguments} {body : List Stmt} {scope : Scope} {f : Addr} {fd : FuncData}
/-- the surroundings of a def's body -/
abbrev cxD (P : Program) (w : World) (K : PySem.W.Frag) (mg : Str → Option Value) (base : Heap) (N : List Str) (qual : Str) (scope : Scope) (f : Addr) (cdv : Value) (A : Around) (outer : List Env) (s : Shared) (H : Hp) (E : XK) : Cx :=
  cxOf (L2.CX P w) P w K mg base N qual scope f cdv A outer s H E
/-- what a body's term may lean on -/
structure BodyCx (X : Cx) {io oe : List Nat} (G : Pc io oe) (k : Nat) : Prop where
  tk : Takes X G.EX
  own : PassesOwn (model X.prog X.w) X.A X.env X.xe
  room : Room k X.A
  gd : X.A.guards = some []
theorem start_io {io : List Nat} {N : List Str} {vs : List V} {i : Nat} (h : i < vs.length) : (L2.start N vs)[i]? = (sl vs)[i]? := by
  unfold L2.start
  rw [List.getElem?_append_left (by simpa using h)]
theorem LocR.start {A : Addr → Prop} {io : List Nat} {H : Hp} {N : List Str} {vs : List V} {ds : List D} (r : LocR K A io H (sl vs) (ds.map some)) : LocR K A io H (L2.start N vs) (ds.map some ++ List.replicate (N.length - ds.length) none) ∧ Own io (L2.start N vs) = Own io (sl vs) := by
  have hl : vs.length = ds.length := by have := r.len; simpa using this
  have hlt : ∀ i, i ∈ io → i < vs.length := fun i hi => by
    obtain ⟨a, xs, es, e1, _⟩ := r.own i hi
    have := (List.getElem?_eq_some_iff.mp e1).1
    simpa using this
  have e : Own io (L2.start N vs) = Own io (sl vs) := own_congr fun i hi => start_io (io := io) (hlt i hi)
  have ea : Avd A io (L2.start N vs) = Avd A io (sl vs) := by unfold Avd; rw [e]
  have geD : ∀ i, i < ds.length → (ds.map some ++ List.replicate (N.length - ds.length) none)[i]? = (ds.map some)[i]? := fun i hi => List.getElem?_append_left (by simpa using hi)
  refine ⟨⟨?_, r.dom, fun i hi => ?_, fun i j a hi hj e1 e2 => ?_, fun i d hi ei => ?_⟩, e⟩
  · unfold L2.start
    simp [hl]
  · obtain ⟨a, xs, es, e1, e2, e3, n, q⟩ := r.own i hi
    exact ⟨a, xs, es, (start_io (io := io) (hlt i hi)).trans e1, (geD i (by rw [← hl]; exact hlt i hi)).trans e2, e3, n, by rw [ea]; exact q⟩
  · rw [start_io (io := io) (hlt i hi)] at e1
    rw [start_io (io := io) (hlt j hj)] at e2
    exact r.inj i j a hi hj e1 e2
  · rw [ea]
    by_cases hd : i < ds.length
    · rw [geD i hd] at ei
      obtain ⟨v, e1, q⟩ := r.rep i d hi ei
      exact ⟨v, (start_io (io := io) (by rw [hl]; exact hd)).trans e1, q⟩
    · rw [List.getElem?_append_right (by simpa using hd), List.getElem?_replicate] at ei
      split at ei <;> cases ei
/-- a def by its body -/
theorem def_ok {N ps : List Str} {k n : Nat} {io : List Nat} {b : SD} (F : FunD K x qual params body scope [] [] f fd) (S : FnScope N ps scope) (hn : n = ps.length)
    (hb : ∀ (cdv : Value) (A : Around) (outer : List Env) (s : Shared) (H : Hp) (E : XK) (G : Pc io io), BodyCx (cxD P w K mg base N qual scope f cdv A outer s H E) G k → PSsp (cxD P w K mg base N qual scope f cdv A outer s H E) G [] io io body b) :
    FnG P w K mg base (L2.CX P w) (k + 1) f fd ps (spP K mg io n (runB N.length io b)) := by
  refine fng_of F S (fun vs H Q E h => h.1.trans hn) fun cdv A outer s H vs Q E hr gd h => ?_
  obtain ⟨hvs, A', ds, lr, h⟩ := h
  refine ⟨_, hb cdv A outer s H E ⟨A', fun cls d _ H => E cls d H⟩ ⟨takes_of rfl rfl rfl rfl, passes_of rfl, hr, gd⟩, ?_⟩
  have hl : vs.length = ds.length := by have := lr.len; simpa using this
  obtain ⟨lr', eo⟩ := LocR.start (N := N) lr
  have hlt : ∀ i, i ∈ io → i < vs.length := fun i hi => by
    obtain ⟨a, xs, es, e1, _⟩ := lr.own i hi
    have := (List.getElem?_eq_some_iff.mp e1).1
    simpa using this
  refine ⟨_, lr', ?_⟩
  have h' : PostF K mg A' io vs H (runB N.length io b ds) Q E := h
  unfold runB at h'
  generalize b (ds.map some ++ List.replicate (N.length - ds.length) none) = o at h' ⊢
  have ioq : ∀ {O' : List Nat} {σ' : L2.St} {H' : Hp}, Tr io io (L2.start N vs) H O' σ' H' → ∀ i, i ∈ io → σ'[i]? = (sl vs)[i]? := fun t i hi => (t.io i hi).trans (start_io (io := io) (hlt i hi))
  have chq : ∀ {O' : List Nat} {σ' : L2.St} {H' : Hp}, Tr io io (L2.start N vs) H O' σ' H' → Chg (Own io (sl vs)) H H' := fun t => by rw [← eo]; exact t.chg
  cases o with
  | ok p =>
    obtain ⟨fl, ρ⟩ := p
    cases fl with
    | nx =>
      refine fun σ' H' t r => ?_
      obtain ⟨r2, e2, e3⟩ := r.back (vs := vs) hlt (ioq t)
      exact h' .non H' _ (chq t) r2 e2 .non
    | rt d =>
      refine fun v σ' H' t r q => ?_
      obtain ⟨r2, e2, e3⟩ := r.back (vs := vs) hlt (ioq t)
      exact h' v H' _ (chq t) r2 e2 (by rw [e3]; exact q)
    | bk => exact h'.elim
    | ct => exact h'.elim
  | err x ρ =>
    refine fun cls dd σ' H' t r q => ?_
    obtain ⟨r2, e2, e3⟩ := r.back (vs := vs) hlt (ioq t)
    exact h' cls dd H' _ (chq t) r2 e2 q
  | stuck => exact h'.elim
end
/-! ### calls -/
def fCall (F : FD) (f : AD) : ED := fun ρ => (f ρ).bind fun p => match F p.1 with
  | .ok q => .ok (q.1, p.2)
  | .err x _ => .err x p.2
  | .stuck => .stuck
/-- the first argument is the list in slot i, which is changed -/
def fCallIo (i : Nat) (F : FD) (f : AD) : ED := fun ρ => (f ρ).bind fun p => match p.2[i]? with
  | some (some c) => (match F (c :: p.1) with
    | .ok (d, [some c']) => .ok (d, p.2.set i (some c'))
    | .err x [some c'] => .err x (p.2.set i (some c'))
    | _ => .stuck)
  | _ => .stuck
section
variable {X : Cx} {io oe : List Nat} {G : Pc io oe} {O : List Nat} {σ : L2.St} {H : Hp} {x : Str} {p pos : Pos} {e : Expr} {es : List Expr} {k n : Nat} {fa : Addr} {fd : FuncData} {ps : List Str} {F : FD} {f : AD}
theorem avd_nil {A : Addr → Prop} {σ : L2.St} (a : Addr) : Avd A [] σ a ↔ A a := ⟨fun h => h.elim id fun ⟨_, h, _⟩ => (nomatch h), .inl⟩
theorem RepAll.slots {K : PySem.W.Frag} {Av : Addr → Prop} {H : Hp} {vs : List V} {ds : List D} (q : RepAll K Av H vs ds) (dom : ∀ a, Av a → H a ≠ none) : LocR K Av [] H (sl vs) (ds.map some) := by
  refine ⟨by simpa using q.length, dom, fun i hi => (nomatch hi), fun i j a hi => (nomatch hi), fun i d _ e => ?_⟩
  rw [List.getElem?_map] at e
  cases e1 : ds[i]? with
  | none => rw [e1] at e; cases e
  | some d' =>
    rw [e1] at e
    cases e
    obtain ⟨v, ev, qv⟩ := q.get e1
    exact ⟨v, by rw [List.getElem?_map, ev]; rfl, qv.keep (Keep.less fun a z => (avd_nil a).mp z)⟩
/-- an error flies out of an expression -/
theorem Post.fly {α β : Type} {R : Hp → β → α → Prop} {y : Exc} {ρ : Lc} {Q : β → Hp → Prop} (h : Post X G O σ H R (.err y ρ) Q) (r : LocR X.K G.A O H σ ρ) (s : ∀ i, i ∈ oe → i ∈ O) {cls : Value} {dd : Option Addr} {H' : Hp} (c : Chg (Own O σ) H H') (r' : LocR X.K G.A O H' σ ρ)
    (q : ErrR X.K X.mg y cls dd H') : G.EX cls dd σ H' := h cls dd H' ((Tr.of_chg c).trans (Tr.weak s)) (r'.weak s) q
theorem p_call (W : BodyCx X G k) (FO : FnG X.prog X.w X.K X.mg X.base (L2.CX X.prog X.w) k fa fd ps (spP X.K X.mg [] n F)) (hm : X.mg x = some (.ref fa)) (hk : PySem.W.keepIn X.K (.ref fa) = true) (hb : Binds X.K fd ps []) (ha : PAp X G O (e :: es) f) (hn : (e :: es).length = n := by rfl)
    (s : ∀ i, i ∈ oe → i ∈ O := by decide) (hg : Gl X x := by rfl) (hdb : (x == ("__debug__" : Str)) = false := by decide) (he : starEach (e :: es) X.env = (false, eval e X.env) :: starEach es X.env := by rfl) (hpl : (backTo pos (starEach es X.env)).any (·.1) = false := by rfl) :
    PEp X G O (.Call (.Name x p) (e :: es) [] pos) (fCall F f) := by
  refine PE.imp (pe_callG FO W.room W.gd hg hm hk hb (fun σ => passAt W.tk σ) ha.pa hdb he hpl) fun σ H Q h => ?_
  obtain ⟨ρ, lr, h⟩ := h
  refine ⟨ρ, lr, ?_⟩
  have hlen' := ha.len ρ
  have h0 : Post X G O σ H (RE X G O σ) ((f ρ).bind fun p => match F p.1 with | .ok q => .ok (q.1, p.2) | .err x _ => .err x p.2 | .stuck => .stuck) Q := h
  generalize f ρ = o at h0 hlen' ⊢
  cases o with
  | err y ρ1 => exact h0
  | stuck => exact h0
  | ok p0 =>
    intro vs H1 c1 r1 q1
    have hl := hlen' p0 rfl
    refine ⟨by rw [RepAll.length q1, hl]; exact hn, Avd G.A O σ, p0.1, RepAll.slots q1 r1.avdom, ?_⟩
    have h1 : Post X G O σ H1 (RE X G O σ) (match F p0.1 with | .ok q => .ok (q.1, p0.2) | .err x _ => .err x p0.2 | .stuck => .stuck) Q := Post.from h0 c1
    have sm : ∀ {H' : Hp}, Chg (Own [] (sl vs)) H1 H' → Same H1 H' := fun c b o hbo => c b o hbo fun ⟨_, z, _⟩ => (nomatch z)
    cases eF : F p0.1 with
    | ok q =>
      rw [eF] at h1
      exact fun v H' ρ' c _ _ rv => h1 v H' (Chg.of_same (sm c)) (r1.same (sm c)) (rv.keep (Keep.less fun a z => (avd_nil a).mpr z))
    | err y os =>
      rw [eF] at h1
      exact fun cls dd H' ρ' c _ _ q => Post.fly h1 r1 s (Chg.of_same (sm c)) (r1.same (sm c)) q
    | stuck => rw [eF] at h1; exact h1.elim
theorem p_callIo (i : Nat) {y : Str} {py : Pos} (W : BodyCx X G k) (FO : FnG X.prog X.w X.K X.mg X.base (L2.CX X.prog X.w) k fa fd ps (spP X.K X.mg [0] n F)) (hm : X.mg x = some (.ref fa)) (hk : PySem.W.keepIn X.K (.ref fa) = true) (hb : Binds X.K fd ps []) (ha : PAp X G O es f)
    (hn : (Expr.Name y py :: es).length = n := by rfl) (hO : i ∈ O := by decide) (s : ∀ i, i ∈ oe → i ∈ O := by decide) (hg : Gl X x := by rfl) (hN : X.N[i]? = some y := by rfl) (hv : Vis X.env.scope y := by first | exact Or.inl rfl | exact Or.inr (Or.inl rfl) | exact Or.inr (Or.inr rfl))
    (hd : (y == ("__debug__" : Str)) = false := by decide) (hcd : (y == ("__classdict__" : Str)) = false := by decide) (hdb : (x == ("__debug__" : Str)) = false := by decide)
    (hst : starEach (Expr.Name y py :: es) X.env = (false, eval (.Name y py) X.env) :: starEach es X.env := by rfl) (hpl : (backTo pos (starEach es X.env)).any (·.1) = false := by rfl) :
    PEp X G O (.Call (.Name x p) (.Name y py :: es) [] pos) (fCallIo i F f) := by
  refine PE.imp (pe_callG FO W.room W.gd hg hm hk hb (fun σ => passAt W.tk σ) (pa_cons (pe_var (i := i) hN hv hd hcd) ha.pa hst) hdb hst hpl) fun σ H Q h => ?_
  obtain ⟨ρ, lr, h⟩ := h
  obtain ⟨c, xs, cs, e1, e2, e3, nA, qc⟩ := lr.own i hO
  refine ⟨.ref c, e1, ρ, lr, ?_⟩
  have hlen' := ha.len ρ
  have h0 : Post X G O σ H (RE X G O σ) ((f ρ).bind fun p => match p.2[i]? with
    | some (some c) => (match F (c :: p.1) with
      | .ok (d, [some c']) => .ok (d, p.2.set i (some c'))
      | .err x [some c'] => .err x (p.2.set i (some c'))
      | _ => .stuck)
    | _ => .stuck) Q := h
  generalize f ρ = o at h0 hlen' ⊢
  cases o with
  | err y ρ1 => exact h0
  | stuck => exact h0
  | ok p0 =>
    intro vs H1 c1 r1 q1
    have hl := hlen' p0 rfl
    obtain ⟨c2, xs1, cs1, e1', e2', e3', nA', qc'⟩ := r1.own i hO
    rw [e1] at e1'
    cases e1'
    have h1 : Post X G O σ H1 (RE X G O σ) (match p0.2[i]? with
      | some (some c) => (match F (c :: p0.1) with
        | .ok (d, [some c']) => .ok (d, p0.2.set i (some c'))
        | .err x [some c'] => .err x (p0.2.set i (some c'))
        | _ => .stuck)
      | _ => .stuck) Q := Post.from h0 c1
    rw [e2'] at h1
    dsimp only at h1
    have av0 : ∀ (us : List V) (a : Addr), Avd (fun a => Avd G.A O σ a ∧ a ≠ c) [0] (sl (.ref c :: us)) a ↔ Avd G.A O σ a := fun us a => by
      constructor
      · rintro (z | ⟨j, hj, z⟩)
        · exact z.1
        · have ej : j = 0 := by simpa using hj
          subst ej
          have ea : c = a := by simpa [sl] using z
          exact ea ▸ .inr ⟨i, hO, e1⟩
      · intro z
        by_cases ha : a = c
        · exact .inr ⟨0, List.mem_singleton_self 0, by simp [sl, ha]⟩
        · exact .inl ⟨z, ha⟩
    have sub : ∀ (us : List V), Keep (Avd G.A O σ) (Avd (fun a => Avd G.A O σ a ∧ a ≠ c) [0] (sl (.ref c :: us))) H1 H1 := fun us => Keep.less fun a z => (av0 us a).mp z
    have lr0 : LocR X.K (fun a => Avd G.A O σ a ∧ a ≠ c) [0] H1 (sl (.ref c :: vs)) ((D.lst cs1 :: p0.1).map some) := by
      refine ⟨by simp [RepAll.length q1], fun a z => r1.avdom a z.1, fun j hj => ?_, fun j l a hj hl' _ _ => ?_, fun j d hj ej => ?_⟩
      · have ej : j = 0 := by simpa using hj
        subst ej
        exact ⟨c, xs1, cs1, rfl, rfl, e3', fun z => z.2 rfl, qc'.keep (sub vs)⟩
      · have ej : j = 0 := by simpa using hj
        have el : l = 0 := by simpa using hl'
        rw [ej, el]
      · cases j with
        | zero => exact absurd (List.mem_singleton_self 0) hj
        | succ j =>
          rw [List.getElem?_map, List.getElem?_cons_succ] at ej
          cases e4 : p0.1[j]? with
          | none => rw [e4] at ej; cases ej
          | some d' =>
            rw [e4] at ej
            cases ej
            obtain ⟨v, ev, qv⟩ := RepAll.get q1 e4
            exact ⟨v, by show (sl (.ref c :: vs))[j + 1]? = _; rw [List.getElem?_map, List.getElem?_cons_succ, ev]; rfl, qv.keep (sub vs)⟩
    refine ⟨?_, fun a => Avd G.A O σ a ∧ a ≠ c, D.lst cs1 :: p0.1, lr0, ?_⟩
    · rw [← hn, List.length_cons, List.length_cons, RepAll.length q1, hl]
    -- behind the call
    have aft : ∀ {H' : Hp} {ρ' : Lc} {c' : D}, Chg (Own [0] (sl (.ref c :: vs))) H1 H' → LocR X.K (fun a => Avd G.A O σ a ∧ a ≠ c) [0] H' (sl (.ref c :: vs)) ρ' → outs [0] ρ' = [some c'] →
        LocR X.K G.A O H' σ (p0.2.set i (some c')) ∧ Chg (Own O σ) H1 H' := fun {H' ρ' c'} ch r' eo => by
      obtain ⟨b, ys, ds', f1, f2, f3, _, f4⟩ := r'.own 0 (List.mem_singleton_self 0)
      have eb : c = b := by simpa [sl] using f1
      subst eb
      have ec : c' = .lst ds' := by
        unfold outs at eo
        rw [List.map_singleton, f2] at eo
        have := List.cons.inj eo
        exact (Option.some.inj this.1).symm
      subst ec
      have kk : ∀ a o, H1 a = some o → a ≠ c → H' a = some o := fun a o ha hne => ch a o ha fun ⟨j, hj, z⟩ => by
        have ej : j = 0 := by simpa using hj
        subst ej
        have ea : c = a := by simpa [sl] using z
        exact hne ea.symm
      refine ⟨LocR.change r1 hO e1 kk f3 (f4.keep (Keep.less fun a z => (av0 vs a).mpr z)), fun a o ha n => kk a o ha fun w => n ⟨i, hO, by rw [w]; exact e1⟩⟩
    cases eF : F (D.lst cs1 :: p0.1) with
    | ok q =>
      obtain ⟨d, os⟩ := q
      rw [eF] at h1
      refine fun v H' ρ' ch r' eo rv => ?_
      have eo' : outs [0] ρ' = os := eo
      have : ∃ z, os = [z] := by rw [← eo']; exact ⟨_, rfl⟩
      obtain ⟨z, rfl⟩ := this
      cases z with
      | none => exact h1.elim
      | some c' =>
        obtain ⟨lr2, ch2⟩ := aft ch r' eo'
        exact h1 v H' ch2 lr2 (rv.keep (Keep.less fun a z => (av0 vs a).mpr z))
    | err y os =>
      rw [eF] at h1
      refine fun cls dd H' ρ' ch r' eo qe => ?_
      have : ∃ z, os = [z] := by rw [← eo]; exact ⟨_, rfl⟩
      obtain ⟨z, rfl⟩ := this
      cases z with
      | none => exact h1.elim
      | some c' =>
        obtain ⟨lr2, ch2⟩ := aft ch r' eo
        exact h1 cls dd H' ((Tr.of_chg ch2).trans (Tr.weak s)) (lr2.weak s) qe
    | stuck => rw [eF] at h1; exact h1.elim
end
end Pl
set_option maxHeartbeats 4000000
namespace Pl
open PySem PySem.Spec L2
/-! ### a new list, owned by a slot -/
def PostN {io oe : List Nat} (X : Cx) (G : Pc io oe) (O : List Nat) (σ : L2.St) (H : Hp) (o : Out (List D × Lc)) (Q : VK) : Prop :=
  match o with
  | .ok q => ∀ p xs H1, Chg (Own O σ) H H1 → LocR X.K G.A O H1 σ q.2 → H1 p = none → RepAll X.K (Avd G.A O σ) H1 xs q.1 → Q (.ref p) (upd H1 p (.lst xs))
  | .err x ρ => ∀ cls dd H', Tr io O σ H oe σ H' → LocR X.K G.A oe H' σ ρ → ErrR X.K X.mg x cls dd H' → G.EX cls dd σ H'
  | .stuck => False
/-- an expression that gives a new list -/
def PNp {io oe : List Nat} (X : Cx) (G : Pc io oe) (O : List Nat) (e : Expr) (f : AD) : Prop := PE X e (fun σ H Q => ∃ ρ, LocR X.K G.A O H σ ρ ∧ PostN X G O σ H (f ρ) Q)
def nLst (f : AD) : AD := fun ρ => (f ρ).bind fun p => if lnOk p.1.length then .ok p else .stuck
def nOf (f : ED) : AD := fun ρ => (f ρ).bind fun p => match p.1 with
  | .lst ds => .ok (ds, p.2)
  | .fl ds => .ok (ds, p.2)
  | .tup ds => .ok (ds, p.2)
  | _ => .stuck
def sOwn (i : Nat) (f : AD) : SD := fun ρ => (f ρ).bind fun p => if i < p.2.length then .ok (.nx, p.2.set i (some (.lst p.1))) else .stuck
/-- the list in slot i -/
def lstAt (ρ : Lc) (i : Nat) : Option (List D) := match ρ[i]? with
  | some (some (.lst ds)) => some ds
  | _ => none
def oIx (i : Nat) (f : ED) : ED := fun ρ => (f ρ).bind fun p => match lstAt p.2 i, p.1 with
  | some ds, .int j => put (atI ds j) p.2
  | _, _ => .stuck
def oLen (i : Nat) : ED := fun ρ => match lstAt ρ i with
  | some ds => .ok (.int ds.length, ρ)
  | none => .stuck
def oApp (i : Nat) (f : ED) : ED := fun ρ => (f ρ).bind fun p => match lstAt p.2 i with
  | some ds => if lnOk (ds.length + 1) then .ok (.non, p.2.set i (some (.lst (ds ++ [p.1])))) else .stuck
  | none => .stuck
def oExt (i : Nat) (f : ED) : ED := fun ρ => (f ρ).bind fun p => match lstAt p.2 i, p.1 with
  | some ds, .lst es => if lnOk (ds.length + es.length) then .ok (.non, p.2.set i (some (.lst (ds ++ es)))) else .stuck
  | _, _ => .stuck
def oPop (i : Nat) : ED := fun ρ => match lstAt ρ i with
  | some ds => (match ds[ds.length - 1]? with
    | some d => .ok (d, ρ.set i (some (.lst ds.dropLast)))
    | none => .stuck)
  | none => .stuck
def oPopAt (i : Nat) (f : ED) : ED := fun ρ => (f ρ).bind fun p => match lstAt p.2 i, p.1 with
  | some ds, .int j => if decide (-(2 ^ 63) ≤ j) && decide (j < 2 ^ 63) then (match seqIndex? j ds.length with
      | some k => (match ds[k]? with
        | some d => .ok (d, p.2.set i (some (.lst (ds.eraseIdx k))))
        | none => .stuck)
      | none => .stuck) else .stuck
  | _, _ => .stuck
def sSetI (i : Nat) (f k : ED) : SD := fun ρ => (f ρ).bind fun p => (k p.2).bind fun q => match lstAt q.2 i, q.1 with
  | some ds, .int j => (match ixN ds.length j with
    | some m => .ok (.nx, q.2.set i (some (.lst (ds.set m p.1))))
    | none => .stuck)
  | _, _ => .stuck
section
variable {X : Cx} {io oe : List Nat} {G : Pc io oe} {O Ol : List Nat} {σ : L2.St} {H : Hp} {f k : ED}
theorem lstAt_of {ρ : Lc} {i : Nat} {ds : List D} (h : lstAt ρ i = some ds) : ρ[i]? = some (some (.lst ds)) := by
  unfold lstAt at h
  split at h
  · rename_i e
    cases h
    exact e
  · cases h
/-- what an owned slot holds -/
theorem LocR.at {K : PySem.W.Frag} {A : Addr → Prop} {ρ : Lc} (r : LocR K A O H σ ρ) {i : Nat} (hi : i ∈ O) {ds : List D} (h : lstAt ρ i = some ds) : ∃ c xs, σ[i]? = some (some (.ref c)) ∧ H c = some (.lst xs) ∧ RepAll K (Avd A O σ) H xs ds ∧ Avd A O σ c := by
  obtain ⟨c, xs, es, e1, e2, e3, n, q⟩ := r.own i hi
  rw [lstAt_of h] at e2
  cases e2
  exact ⟨c, xs, e1, e3, q, .inr ⟨i, hi, e1⟩⟩
theorem n_lst {es : List Expr} {pos : Pos} {f : AD} (ha : PAp X G O es f) : PNp X G O (.List es pos) (nLst f) := by
  refine PE.imp (pe_lst ha.pa) fun σ H Q h => ?_
  obtain ⟨ρ, lr, h⟩ := h
  refine ⟨ρ, lr, ?_⟩
  have h' : PostN X G O σ H ((f ρ).bind fun p => if lnOk p.1.length then .ok p else .stuck) Q := h
  generalize f ρ = o at h' ⊢
  cases o with
  | err x ρ1 => exact h'
  | stuck => exact h'
  | ok p =>
    intro vs H1 c1 r1 q1
    have h2 : PostN X G O σ H (if lnOk p.1.length then .ok p else .stuck) Q := h'
    split at h2
    · rename_i hz
      exact ⟨by rw [RepAll.length q1]; exact of_decide_eq_true hz, fun a ha => h2 a vs H1 c1 r1 ha q1⟩
    · exact h2.elim
theorem n_list {x : Str} {p pos : Pos} {e : Expr} (hm : X.mg x = none) (he : PEp X G O e f) (hb : bootBuiltins x = some (.type "list") := by decide +kernel) (hg : Gl X x := by rfl) (hn : x ≠ "__name__" := by decide) (hdb : (x == ("__debug__" : Str)) = false := by decide)
    (hst : starEach (e :: []) X.env = (false, eval e X.env) :: starEach [] X.env := by rfl) (hpl : (backTo pos (starEach [] X.env)).any (·.1) = false := by rfl) : PNp X G O (.Call (.Name x p) [e] [] pos) (nOf f) := by
  refine PE.imp (pe_callTy call_list_of hg hm hb (pa_cons he pa_nil hst) hn hdb hst hpl) fun σ H Q h => ?_
  obtain ⟨ρ, lr, h⟩ := h
  refine ⟨ρ, lr, ?_⟩
  have h' : PostN X G O σ H ((f ρ).bind fun p => match p.1 with | .lst ds => .ok (ds, p.2) | .fl ds => .ok (ds, p.2) | .tup ds => .ok (ds, p.2) | _ => .stuck) Q := h
  generalize f ρ = o at h' ⊢
  cases o with
  | err x ρ1 => exact h'
  | stuck => exact h'
  | ok p =>
    intro v H1 c1 r1 q1
    obtain ⟨d, ρ1⟩ := p
    cases d with
    | lst ds =>
      obtain ⟨a, xs, rfl, hs, _, ra⟩ := Rep.lst_inv q1
      exact ⟨a, xs, rfl, .inl (SqL.of hs), fun l hl => h' l xs H1 c1 r1 hl ra⟩
    | fl ds =>
      obtain ⟨a, xs, rfl, hs, ra⟩ := Rep.fl_inv q1
      exact ⟨a, xs, rfl, .inl hs.sq, fun l hl => h' l xs H1 c1 r1 hl ra⟩
    | tup ds =>
      obtain ⟨a, xs, rfl, hs, ra⟩ := Rep.tup_inv q1
      exact ⟨a, xs, rfl, .inr hs, fun l hl => h' l xs H1 c1 r1 hl ra⟩
    | _ => exact h'.elim
theorem s_own (i : Nat) {x : Str} {e : Expr} {f : AD} {pos pos' : Pos} (hN : X.N.Nodup) (hx : L2.Loc X.env.scope x) (he : PNp X G O e f) (hi : X.N[i]? = some x := by rfl) (ho : i ∉ O := by decide) (hio : i ∉ io := by decide)
    (hs : swapsWith e (some (.Name x pos')) pos.line X.env = pure false := by rfl) (hf : X.fn x = true ∨ X.env.scope.names.lookup x = some .local := by first | exact .inl rfl | exact .inr rfl) :
    PSp X G Ol O (i :: O) (.Assign [.Name x pos'] e pos) (sOwn i f) := by
  refine PS.imp (ps_set (i := i) hN hi hx he hs hf) fun Dn σ H h => ?_
  obtain ⟨ρ, lr, h⟩ := h
  refine ⟨ρ, lr, ?_⟩
  have h' : PostS X G Ol O (i :: O) σ H ((f ρ).bind fun p => if i < p.2.length then .ok (.nx, p.2.set i (some (.lst p.1))) else .stuck) Dn := h
  generalize f ρ = o at h' ⊢
  cases o with
  | err x ρ1 => exact fun cls dd H' t => h' cls dd σ H' t
  | stuck => exact h'
  | ok p =>
    intro c xs H1 c1 r1 hc q1
    have h2 : PostS X G Ol O (i :: O) σ H (if i < p.2.length then .ok (.nx, p.2.set i (some (.lst p.1))) else .stuck) Dn := h'
    split at h2
    · rename_i hl
      obtain ⟨r2, t2⟩ := LocR.fresh (io := io) r1 ho (by rw [r1.len]; exact hl) hc q1
      exact h2 _ _ ((Tr.of_chg c1).trans (t2 hio)) r2
    · exact h2.elim
/-- an owned slot that is laid anew -/
theorem s_own2 (i : Nat) {x : Str} {e : Expr} {f : AD} {pos pos' : Pos} (hN : X.N.Nodup) (hx : L2.Loc X.env.scope x) (he : PNp X G (O.erase i) e f) (hsub : ∀ j, j ∈ O.erase i → j ∈ O := by decide) (hi : X.N[i]? = some x := by rfl) (ho : i ∉ O.erase i := by decide) (hio : i ∉ io := by decide)
    (hs : swapsWith e (some (.Name x pos')) pos.line X.env = pure false := by rfl) (hf : X.fn x = true ∨ X.env.scope.names.lookup x = some .local := by first | exact .inl rfl | exact .inr rfl) :
    PSp X G Ol O (i :: O.erase i) (.Assign [.Name x pos'] e pos) (sOwn i f) := s_weak1 (s_own i hN hx he hi ho hio hs hf) hsub
theorem o_ix (i : Nat) {x : Str} {b : Expr} {px pos : Pos} (hb : PEp X G O b f) (hp : PlainIx b := by intro _ _; rfl) (hO : i ∈ O := by decide) (hN : X.N[i]? = some x := by rfl) (hv : Vis X.env.scope x := by first | exact Or.inl rfl | exact Or.inr (Or.inl rfl) | exact Or.inr (Or.inr rfl))
    (hd : (x == ("__debug__" : Str)) = false := by decide) (hcd : (x == ("__classdict__" : Str)) = false := by decide) : PEp X G O (.Subscript (.Name x px) b pos) (oIx i f) := by
  refine PE.imp (pe_ix ix_list (pe_var (i := i) hN hv hd hcd) hb hp) fun σ H Q h => ?_
  obtain ⟨ρ, lr, h⟩ := h
  obtain ⟨c, xs, cs, e1, e2, e3, nA, qc⟩ := lr.own i hO
  refine ⟨.ref c, e1, ρ, lr, h.step fun d ρ1 v H1 r1 q1 c1 h1 => ?_⟩
  dsimp only at h1
  split at h1
  · rename_i ds j e4
    obtain ⟨c', xs', f1, f2, f3, _⟩ := r1.at hO e4
    rw [e1] at f1
    cases f1
    obtain ⟨d', e5, fin⟩ := put_done h1 r1
    obtain ⟨y, e6, ry⟩ := atI_rep f3 e5
    exact ⟨c, xs', j, y, rfl, q1.int_inv, SqL.of f2, e6, fin _ _ (Same.refl H1) ry⟩
  · exact h1.elim
theorem o_len (i : Nat) {l x : Str} {p px pos : Pos} (hm : X.mg l = none) (hb : bootBuiltins l = some (.builtin "len") := by decide +kernel) (hg : Gl X l := by rfl) (hO : i ∈ O := by decide) (hN : X.N[i]? = some x := by rfl)
    (hv : Vis X.env.scope x := by first | exact Or.inl rfl | exact Or.inr (Or.inl rfl) | exact Or.inr (Or.inr rfl)) (hd : (x == ("__debug__" : Str)) = false := by decide) (hcd : (x == ("__classdict__" : Str)) = false := by decide)
    (hn : l ≠ "__name__" := by decide) (hdb : (l == ("__debug__" : Str)) = false := by decide) (hst : starEach (Expr.Name x px :: []) X.env = (false, eval (.Name x px) X.env) :: starEach [] X.env := by rfl) (hpl : (backTo pos (starEach [] X.env)).any (·.1) = false := by rfl) :
    PEp X G O (.Call (.Name l p) [.Name x px] [] pos) (oLen i) := by
  refine PE.imp (pe_callB call_len_seq hg hm hb (pa_cons (pe_var (i := i) hN hv hd hcd) pa_nil hst) hn hdb hst hpl) fun σ H Q h => ?_
  obtain ⟨ρ, lr, h⟩ := h
  dsimp only [oLen] at h
  split at h
  · rename_i ds e
    obtain ⟨c, xs, e1, e3, qc, _⟩ := lr.at hO e
    refine ⟨.ref c, e1, c, xs, rfl, .inl (SqL.of e3), ?_⟩
    rw [qc.length]
    exact h _ H Chg.refl lr (.int _)
  · exact h.elim
/-- the list in slot i is another one now -/
theorem own_upd {ρ : Lc} {i : Nat} {c : Addr} {xs : List V} {ds : List D} (lr : LocR X.K G.A O H σ ρ) (hO : i ∈ O) (e1 : σ[i]? = some (some (.ref c))) (q : RepAll X.K (Avd G.A O σ) H xs ds) :
    LocR X.K G.A O (upd H c (.lst xs)) σ (ρ.set i (some (.lst ds))) ∧ Chg (Own O σ) H (upd H c (.lst xs)) := by
  have ch : Chg (Own O σ) H (upd H c (.lst xs)) := fun a o h n => by
    have : a ≠ c := fun w => n ⟨i, hO, by rw [w]; exact e1⟩
    rw [upd_ne this]
    exact h
  exact ⟨LocR.change lr hO e1 (fun a o h n => by rw [upd_ne n]; exact h) upd_same (q.keep (lr.keep ch)), ch⟩
theorem o_app (i : Nat) {x : Str} {px apos pos : Pos} {b : Expr} (hb : PEp X G O b f) (hO : i ∈ O := by decide) (hN : X.N[i]? = some x := by rfl) (hv : Vis X.env.scope x := by first | exact Or.inl rfl | exact Or.inr (Or.inl rfl) | exact Or.inr (Or.inr rfl))
    (hd : (x == ("__debug__" : Str)) = false := by decide) (hcd : (x == ("__classdict__" : Str)) = false := by decide) (h1 : PE X (.Call (.Attribute (.Name x px) "append" apos) [b] [] pos) (tBM X.K "list" rAppend (tVar i) (tCons (tG X G O (RE X G O) f) tNil))) :
    PEp X G O (.Call (.Attribute (.Name x px) "append" apos) [b] [] pos) (oApp i f) := by
  refine PE.imp h1 fun σ H Q h => ?_
  obtain ⟨ρ, lr, h⟩ := h
  obtain ⟨c, xs, cs, e1, e2, e3, nA, qc⟩ := lr.own i hO
  refine ⟨.ref c, e1, .inl ⟨rfl, xs, SqL.of e3⟩, ρ, lr, h.step fun d ρ1 v H1 r1 q1 c1 h1 => ?_⟩
  dsimp only at h1
  split at h1
  · rename_i ds e4
    split at h1
    · rename_i hz
      obtain ⟨c', xs', f1, f2, f3, _⟩ := r1.at hO e4
      rw [e1] at f1
      cases f1
      obtain ⟨r2, c2⟩ := own_upd r1 hO e1 (f3.append (.cons q1 .nil))
      exact ⟨c, xs', v, rfl, rfl, f2, by rw [f3.length]; exact of_decide_eq_true hz, h1 _ _ c2 r2 .non⟩
    · exact h1.elim
  · exact h1.elim
theorem o_ext (i : Nat) {x : Str} {px apos pos : Pos} {b : Expr} (hO : i ∈ O := by decide) (h1 : PE X (.Call (.Attribute (.Name x px) "extend" apos) [b] [] pos) (tBM X.K "list" rExtend (tVar i) (tCons (tG X G O (RE X G O) f) tNil))) :
    PEp X G O (.Call (.Attribute (.Name x px) "extend" apos) [b] [] pos) (oExt i f) := by
  refine PE.imp h1 fun σ H Q h => ?_
  obtain ⟨ρ, lr, h⟩ := h
  obtain ⟨c, xs, cs, e1, e2, e3, nA, qc⟩ := lr.own i hO
  refine ⟨.ref c, e1, .inl ⟨rfl, xs, SqL.of e3⟩, ρ, lr, h.step fun d ρ1 v H1 r1 q1 c1 h1 => ?_⟩
  dsimp only at h1
  split at h1
  · rename_i ds es e4
    split at h1
    · rename_i hz
      obtain ⟨c', xs', f1, f2, f3, _⟩ := r1.at hO e4
      rw [e1] at f1
      cases f1
      obtain ⟨b', ys, rfl, hb, _, rb⟩ := q1.lst_inv
      obtain ⟨r2, c2⟩ := own_upd r1 hO e1 (f3.append rb)
      exact ⟨c, b', xs', ys, rfl, rfl, f2, hb, by rw [f3.length, rb.length]; exact of_decide_eq_true hz, h1 _ _ c2 r2 .non⟩
    · exact h1.elim
  · exact h1.elim
theorem o_pop (i : Nat) {x : Str} {px apos pos : Pos} (hO : i ∈ O := by decide) (h1 : PE X (.Call (.Attribute (.Name x px) "pop" apos) [] [] pos) (tBM0 X.K "list" rPop (tVar i))) :
    PEp X G O (.Call (.Attribute (.Name x px) "pop" apos) [] [] pos) (oPop i) := by
  refine PE.imp h1 fun σ H Q h => ?_
  obtain ⟨ρ, lr, h⟩ := h
  dsimp only [oPop] at h
  split at h
  · rename_i ds e
    split at h
    · rename_i d ed
      obtain ⟨c, xs, e1, e3, qc, _⟩ := lr.at hO e
      obtain ⟨v, ev, qv⟩ := qc.get ed
      have qd : RepAll X.K (Avd G.A O σ) H xs.dropLast ds.dropLast := by
        rw [List.dropLast_eq_take, List.dropLast_eq_take, qc.length]
        exact qc.take _
      obtain ⟨r2, c2⟩ := own_upd lr hO e1 qd
      exact ⟨.ref c, e1, .inl ⟨rfl, xs, SqL.of e3⟩, c, xs, v, rfl, rfl, e3, by rw [qc.length]; exact ev, h _ _ c2 r2 (qv.keep (lr.keep c2))⟩
    · exact h.elim
  · exact h.elim
theorem o_popAt (i : Nat) {x : Str} {px apos pos : Pos} {b : Expr} (hO : i ∈ O := by decide) (h1 : PE X (.Call (.Attribute (.Name x px) "pop" apos) [b] [] pos) (tBM X.K "list" rPopAt (tVar i) (tCons (tG X G O (RE X G O) f) tNil))) :
    PEp X G O (.Call (.Attribute (.Name x px) "pop" apos) [b] [] pos) (oPopAt i f) := by
  refine PE.imp h1 fun σ H Q h => ?_
  obtain ⟨ρ, lr, h⟩ := h
  obtain ⟨c, xs, cs, e1, e2, e3, nA, qc⟩ := lr.own i hO
  refine ⟨.ref c, e1, .inl ⟨rfl, xs, SqL.of e3⟩, ρ, lr, h.step fun d ρ1 v H1 r1 q1 c1 h1 => ?_⟩
  dsimp only at h1
  split at h1
  · rename_i ds j e4
    split at h1
    · rename_i hz
      rw [Bool.and_eq_true, decide_eq_true_eq, decide_eq_true_eq] at hz
      split at h1
      · rename_i m em
        split at h1
        · rename_i d' ed
          obtain ⟨c', xs', f1, f2, f3, _⟩ := r1.at hO e4
          rw [e1] at f1
          cases f1
          obtain ⟨y, ey, qy⟩ := f3.get ed
          obtain ⟨r2, c2⟩ := own_upd r1 hO e1 (f3.erase m)
          exact ⟨c, xs', j, m, y, rfl, by rw [q1.int_inv], f2, hz.1, hz.2, by rw [f3.length]; exact em, ey, h1 _ _ c2 r2 (qy.keep (r1.keep c2))⟩
        · exact h1.elim
      · exact h1.elim
    · exact h1.elim
  · exact h1.elim
theorem s_setI (i : Nat) {x : Str} {px tpos pos : Pos} {a b : Expr} (ha : PEp X G O a f) (hb : PEp X G O b k) (hO : i ∈ O := by decide) (hN : X.N[i]? = some x := by rfl) (hv : Vis X.env.scope x := by first | exact Or.inl rfl | exact Or.inr (Or.inl rfl) | exact Or.inr (Or.inr rfl))
    (hd : (x == ("__debug__" : Str)) = false := by decide) (hcd : (x == ("__classdict__" : Str)) = false := by decide)
    (hs : swapsWithSole [.Subscript (.Name x px) b tpos] a pos.line X.env = pure false := by rfl) (hw : swappedStores [.Subscript (.Name x px) b tpos] a X.env = pure none := by rfl) (h1 : (assignEach [.Subscript (.Name x px) b tpos] X.env).map (·.2) = [assign (.Subscript (.Name x px) b tpos) X.env] := by rfl)
    (has : ∀ v, assign (.Subscript (.Name x px) b tpos) X.env v = (do
      let ov ← holding [v] (eval (.Name x px) X.env)
      let iv ← holding [v, ov] (eval b X.env)
      standAt tpos
      holding [v, ov, iv] (setItem ov iv v)
      release [v, ov, iv] []) := by intro _; rfl) :
    PSp X G Ol O O (.Assign [.Subscript (.Name x px) b tpos] a pos) (sSetI i f k) := by
  refine PS.imp (ps_asg ha (pg_sub (pe_var (i := i) hN hv hd hcd) hb set_list has) hs hw h1) fun Dn σ H h => ?_
  obtain ⟨ρ, lr, h⟩ := h
  obtain ⟨c, xs, cs, e1, e2, e3, nA, qc⟩ := lr.own i hO
  refine ⟨ρ, lr, PostS.step h fun d ρ1 v H1 r1 q1 c1 h1 => ⟨.ref c, e1, ρ1, r1, PostS.step h1 fun e ρ2 w H2 r2 q2 c2 h2 => ?_⟩⟩
  dsimp only at h2
  split at h2
  · rename_i ds j e4
    split at h2
    · rename_i m em
      obtain ⟨c', xs', f1, f2, f3, _⟩ := r2.at hO e4
      rw [e1] at f1
      cases f1
      obtain ⟨r3, c3⟩ := own_upd r2 hO e1 (f3.set (q1.keep (r1.keep c2)) m)
      exact ⟨c, xs', j, m, rfl, q2.int_inv, f2, by rw [f3.length]; exact em, h2 _ _ (Tr.of_chg c3) r3⟩
    · exact h2.elim
  · exact h2.elim
/-! ### errors -/
/-- an own class of error without __init__, over ValueError -/
structure ExcK (K : PySem.W.Frag) (mg : Str → Option Value) (x : Str) : Prop where
  ex : ∃ C, mg x = some (.ref C) ∧ PySem.W.excIn K C [.type "ValueError", .type "Exception", .type "BaseException", .type "object"] "ValueError.__new__" = true ∧ PySem.W.keepIn K (.ref C) = true ∧
    PySem.W.subIn K (.ref C) (.type "BaseException") = some true ∧ PySem.W.typeIn K (.ref C) = some (.type "type")
def sRaise (x : Str) : SD := fun ρ => .err ⟨x, []⟩ ρ
theorem s_raise {x m : Str} {j : Nat} {p p2 pos pos2 : Pos} {O' : List Nat} (tk : Takes X G.EX) (hc : X.calm = true) (E : ExcK X.K X.mg x) (s : ∀ i, i ∈ oe → i ∈ O := by decide) (hg : Gl X x := by rfl) (hdb : (x == ("__debug__" : Str)) = false := by decide) :
    PSp X G Ol O O' (.Raise (some (.Call (.Name x p) [.Constant (.str m) j p2] [] pos)) none pos2) (sRaise x) := by
  obtain ⟨C, gC, xC, kC, sC, tC⟩ := E.ex
  refine PS.imp (ps_raise hc tk (pmk_own PySem.F.excBase_ValueError xC gC kC (raises_own sC tC) hg hdb)) fun Dn σ H h => ?_
  obtain ⟨ρ, lr, h⟩ := h
  exact h (.ref C) none σ H (Tr.weak s) (lr.weak s) ⟨C, gC, rfl, .inl ⟨rfl, rfl⟩⟩
end
/-! ### slices -/
def cutG {α : Type} (xs : List α) (lo hi : Option Int) : List α := (xs.drop (HT.sIx xs.length 0 lo)).take (HT.sIx xs.length xs.length hi - HT.sIx xs.length 0 lo)
def gSl : D → Option Int → Option Int → Option D
  | .tup ds, lo, hi => some (.tup (cutG ds lo hi))
  | .lst ds, lo, hi => some (.lst (cutG ds lo hi))
  | .str z, lo, hi => if lnOk z.length then some (.str (cutS z lo hi)) else none
  | _, _, _ => none
abbrev OD := Lc → Out (Option Int × Lc)
def POp {io oe : List Nat} (X : Cx) (G : Pc io oe) (O : List Nat) (e : Option Expr) (f : OD) : Prop := PO X e (tG X G O (fun _ _ (b c : Option Int) => b = c) f)
def oNo : OD := fun ρ => .ok (none, ρ)
def oPt (f : ED) : OD := fun ρ => (f ρ).bind fun p => match p.1 with
  | .int i => .ok (some i, p.2)
  | _ => .stuck
def fSl (f : ED) (l h : OD) : ED := fun ρ => (f ρ).bind fun p => (l p.2).bind fun q => (h q.2).bind fun r => put (gSl p.1 q.1 r.1) r.2
section
variable {X : Cx} {io oe : List Nat} {G : Pc io oe} {O Ol : List Nat} {σ : L2.St} {H : Hp} {f : ED}
theorem PO.imp {e : Option Expr} {t t' : TO} (h : PO X e t) (w : ∀ σ H Q, t' σ H Q → t σ H Q) : PO X e t' := ⟨fun pins s σ H Q I q => h.run pins s σ H Q I (w σ H Q q)⟩
theorem po_no : POp X G O none oNo := by
  refine PO.imp po_none fun σ H Q h => ?_
  obtain ⟨ρ, lr, h⟩ := h
  exact h none H Chg.refl lr rfl
theorem po_pt {e : Expr} (he : PEp X G O e f) : POp X G O (some e) (oPt f) := by
  refine PO.imp (po_some he) fun σ H Q h => ?_
  obtain ⟨ρ, lr, h⟩ := h
  refine ⟨ρ, lr, h.step fun d ρ1 v H1 r1 q1 c1 h1 => ?_⟩
  dsimp only at h1
  split at h1
  · rename_i i
    exact ⟨i, q1.int_inv, h1 _ H1 Chg.refl r1 rfl⟩
  · exact h1.elim
theorem cut_rep {K : PySem.W.Frag} {Av : Addr → Prop} {xs : List V} {ds : List D} (q : RepAll K Av H xs ds) (lo hi : Option Int) : RepAll K Av H (cutV xs lo hi) (cutG ds lo hi) := by
  unfold cutV cutG
  rw [q.length]
  exact (q.drop _).take _
theorem cut_all {α : Type} {xs : List α} {lo hi : Option Int} (h1 : HT.sIx xs.length 0 lo = 0) (h2 : HT.sIx xs.length xs.length hi = xs.length) : cutG xs lo hi = xs := by
  unfold cutG
  rw [h1, h2]
  simp
theorem p_sl {e : Expr} {lo hi : Option Expr} {p2 pos : Pos} {l h : OD} (he : PEp X G O e f) (hl : POp X G O lo l) (hh : POp X G O hi h) : PEp X G O (.Subscript e (.Slice lo hi none p2) pos) (fSl f l h) := by
  refine PE.imp (pe_slice (sl_list.or (sl_tupA.or sl_str)) he hl hh) fun σ H Q h => ?_
  obtain ⟨ρ, lr, h⟩ := h
  refine ⟨ρ, lr, h.step fun d ρ1 v H1 r1 q1 c1 h1 => ⟨ρ1, r1, h1.step fun a ρ2 a' H2 r2 q2 c2 h2 => ⟨ρ2, r2, h2.step fun b ρ3 b' H3 r3 q3 c3 h3 => ?_⟩⟩⟩
  subst q2 q3
  obtain ⟨d', e', fin⟩ := put_done h3 r3
  have qd := (q1.keep (r1.keep c2)).keep (r2.keep c3)
  cases d with
  | tup ds =>
    cases e'
    obtain ⟨p, xs, rfl, hs, ra⟩ := qd.tup_inv
    refine .inr (.inl ⟨p, xs, rfl, hs, fun z => ?_, fun _ l hl => fin _ _ (same_new hl) (new_tup (cut_rep ra _ _) hl)⟩)
    have e1 : cutG ds a' b' = ds := by
      rw [ra.length] at z
      exact cut_all z.1 z.2
    rw [e1] at fin
    exact fin _ _ (Same.refl H3) (.tup hs ra)
  | lst ds =>
    cases e'
    obtain ⟨p, xs, rfl, hs, _, ra⟩ := qd.lst_inv
    exact .inl ⟨p, xs, rfl, SqL.of hs, fun l hl => fin _ _ (same_new hl) (new_lst (cut_rep ra _ _) r3.avdom hl)⟩
  | str z =>
    dsimp only [gSl] at e'
    split at e'
    · rename_i hz
      cases e'
      have e2 := qd.str_inv
      subst e2
      exact .inr (.inr ⟨z, rfl, of_decide_eq_true hz, fin _ _ (Same.refl H3) (.str _)⟩)
    · cases e'
  | _ => cases e'
end
end Pl
set_option maxHeartbeats 4000000
namespace Pl
open PySem PySem.Spec L2
/-! ### list comprehensions -/
/-- an error in a block is not told of -/
def ne {α : Type} (o : Out α) : Option α := match o with
  | .ok a => some a
  | _ => none
def wipeL (ρ : Lc) : List Nat → Lc
  | [] => ρ
  | v :: vs => (wipeL ρ vs).set v none
/-- the slots vs as they were -/
def resL (ρ : Lc) : List Nat → Lc → Lc
  | [], ρ' => ρ'
  | v :: vs, ρ' => (resL ρ vs ρ').set v (ρ[v]?).join
def loopC (g : GD) (t : TD) (e : ED) (vs : List Nat) : List D → Lc → Option (List D × Lc)
  | [], ρ => some ([], ρ)
  | d :: ds, ρ => (g d ρ).bind fun ρ1 => (ne (t ρ1)).bind fun q => if q.1 = true then (ne (e q.2)).bind fun r => (loopC g t e vs ds (wipeL r.2 vs)).bind fun z => some (r.1 :: z.1, z.2) else loopC g t e vs ds (wipeL q.2 vs)
def loopC2 (g : GD) (t : TD) (f1 : AD) (g1 : GD) (t1 : TD) (e : ED) (vs vs1 : List Nat) : List D → Lc → Option (List D × Lc)
  | [], ρ => some ([], ρ)
  | d :: ds, ρ => (g d ρ).bind fun ρ1 => (ne (t ρ1)).bind fun q => if q.1 = true then (ne (f1 q.2)).bind fun p => (loopC g1 t1 e vs1 p.1 (wipeL p.2 vs1)).bind fun z => (loopC2 g t f1 g1 t1 e vs vs1 ds (wipeL z.2 vs)).bind fun y => some (z.1 ++ y.1, y.2)
      else loopC2 g t f1 g1 t1 e vs vs1 ds (wipeL q.2 vs)
def fitL (ρ : Lc) (vs : List Nat) (o : Option (List D × Lc)) : Out (List D × Lc) := match o with
  | some z => if lnOk z.1.length then .ok (z.1, resL ρ vs z.2) else .stuck
  | none => .stuck
def compN (f : AD) (g : GD) (t : TD) (e : ED) (vs : List Nat) : AD := fun ρ => (f ρ).bind fun p => fitL p.2 vs (loopC g t e vs p.1 (wipeL p.2 vs))
def compN2 (f : AD) (g : GD) (t : TD) (f1 : AD) (g1 : GD) (t1 : TD) (e : ED) (vs vs1 : List Nat) : AD := fun ρ => (f ρ).bind fun p => fitL p.2 vs (loopC2 g t f1 g1 t1 e vs vs1 p.1 (wipeL p.2 vs))
def lstE (f : AD) : ED := fun ρ => (f ρ).bind fun p => .ok (.lst p.1, p.2)
def tYs : TD := fun ρ => .ok (true, ρ)
abbrev Pc.no (A : Addr → Prop) : Pc [] [] := ⟨A, fun _ _ _ _ => False⟩
/-- a reading in a block: whatever is to be left alone -/
def tX {α β : Type} (X : Cx) (O : List Nat) (R : (Addr → Prop) → L2.St → Hp → β → α → Prop) (f : Lc → Out (α × Lc)) : L2.St → Hp → (β → Hp → Prop) → Prop := fun σ H Q => ∃ A, tG X (Pc.no A) O (R A) f σ H Q
theorem BodyCx.blk {X : Cx} {io oe : List Nat} {G : Pc io oe} {k : Nat} (W : BodyCx X G k) {s : Shared} {H : Hp} {scope : Scope} {cenv : Env} {fp : List Addr} {A : Addr → Prop} : BodyCx (X.blk s H scope cenv fp) (Pc.no A) k := ⟨takes0, PassesOwn.never, W.room, W.gd⟩
def PTsp {io oe : List Nat} (X : Cx) (G : Pc io oe) (O : List Nat) (ifs : List Expr) (f : TD) : Prop := PTs X ifs (tG X G O RT f)
section
variable {X : Cx} {io oe : List Nat} {G : Pc io oe} {O : List Nat} {σ : L2.St} {H : Hp} {K : PySem.W.Frag} {A B : Addr → Prop} {ρ ρ' : Lc} {vs : List Nat}
theorem PTs.imp {ifs : List Expr} {t t' : TT} (h : PTs X ifs t) (w : ∀ σ H Q, t' σ H Q → t σ H Q) : PTs X ifs t' := ⟨fun pins s σ H Q I q => h.run pins s σ H Q I (w σ H Q q)⟩
theorem q_none : PTsp X G O [] tYs := by
  refine PTs.imp pts_nil fun σ H Q h => ?_
  obtain ⟨ρ, lr, h⟩ := h
  exact h true H Chg.refl lr rfl
theorem q_one {c : Expr} {t : TD} (h : PTp X G O c t) : PTsp X G O [c] t := pts_one h
theorem wipe_at {i : Nat} (h : i ∉ vs) : (wipe σ vs)[i]? = σ[i]? := wipe_out h
theorem wipeL_at {i : Nat} : ∀ {vs : List Nat}, i ∉ vs → (wipeL ρ vs)[i]? = ρ[i]?
  | [], _ => rfl
  | v :: vs, h => by
    have h1 : i ≠ v := fun e => h (by rw [e]; exact List.mem_cons_self)
    unfold wipeL
    rw [set_ne h1]
    exact wipeL_at fun m => h (List.mem_cons_of_mem _ m)
theorem resL_len : ∀ {vs : List Nat}, (resL ρ vs ρ').length = ρ'.length
  | [] => rfl
  | v :: vs => by unfold resL; rw [List.length_set]; exact resL_len
theorem wipeL_len : ∀ {vs : List Nat}, (wipeL ρ vs).length = ρ.length
  | [] => rfl
  | v :: vs => by unfold wipeL; rw [List.length_set]; exact wipeL_len
theorem resL_out {i : Nat} : ∀ {vs : List Nat}, i ∉ vs → (resL ρ vs ρ')[i]? = ρ'[i]?
  | [], _ => rfl
  | v :: vs, h => by
    have h1 : i ≠ v := fun e => h (by rw [e]; exact List.mem_cons_self)
    unfold resL
    rw [set_ne h1]
    exact resL_out fun m => h (List.mem_cons_of_mem _ m)
theorem resL_in {i : Nat} {d : D} : ∀ {vs : List Nat}, i ∈ vs → (resL ρ vs ρ')[i]? = some (some d) → ρ[i]? = some (some d)
  | [], h, _ => nomatch h
  | v :: vs, h, e => by
    unfold resL at e
    by_cases hv : i = v
    · subst hv
      by_cases hl : i < (resL ρ vs ρ').length
      · rw [List.getElem?_set_self hl] at e
        have e2 := Option.some.inj e
        cases q : ρ[i]? with
        | none => rw [q] at e2; cases e2
        | some o =>
          rw [q] at e2
          have e3 : o = some d := e2
          rw [e3]
      · rw [List.getElem?_eq_none (by rw [List.length_set]; omega)] at e
        cases e
    · rw [set_ne hv] at e
      exact resL_in ((List.mem_cons.mp h).resolve_left hv) e
theorem own_wipe (h : ∀ i, i ∈ vs → i ∉ O) : Own O (wipe σ vs) = Own O σ := own_congr fun i hi => wipe_at fun w => h i w hi
theorem avd_wipe (h : ∀ i, i ∈ vs → i ∉ O) : Avd A O (wipe σ vs) = Avd A O σ := by unfold Avd; rw [own_wipe h]
theorem LocR.wipe (r : LocR K A O H σ ρ) : ∀ {vs : List Nat}, (∀ i, i ∈ vs → i ∉ O) → LocR K A O H (L2.wipe σ vs) (wipeL ρ vs)
  | [], _ => r
  | v :: vs, h => (LocR.wipe r fun i hi => h i (List.mem_cons_of_mem _ hi)).wipe1 (h v List.mem_cons_self)
theorem wipe_get (s : L2.St) : ∀ (vs : List Nat) (j : Nat), (L2.wipe s vs)[j]? = if j ∈ vs then (if j < s.length then some none else none) else s[j]?
  | [], j => by
    rw [if_neg (by simp)]
    rfl
  | v :: vs, j => by
    have ih := wipe_get s vs j
    unfold L2.wipe
    by_cases hj : j = v
    · subst hj
      rw [if_pos List.mem_cons_self]
      by_cases hl : j < s.length
      · rw [if_pos hl, List.getElem?_set_self (by rw [wipe_length]; exact hl)]
      · rw [if_neg hl, List.getElem?_eq_none (by rw [List.length_set, wipe_length]; omega)]
    · rw [set_ne hj, ih]
      by_cases hm : j ∈ vs
      · rw [if_pos hm, if_pos (List.mem_cons_of_mem _ hm)]
      · rw [if_neg hm, if_neg fun z => hm ((List.mem_cons.mp z).resolve_left hj)]
theorem wipe_congr {s s' : L2.St} (hl : s.length = s'.length) (h : ∀ j, j ∉ vs → s[j]? = s'[j]?) : L2.wipe s vs = L2.wipe s' vs := by
  refine List.ext_getElem? fun j => ?_
  rw [wipe_get, wipe_get, hl]
  by_cases hj : j ∈ vs
  · rw [if_pos hj, if_pos hj]
  · rw [if_neg hj, if_neg hj]
    exact h j hj
/-- one more list is to be left alone -/
theorem avd_more {p a : Addr} : Avd (fun a => A a ∨ a = p) O σ a ↔ Avd A O σ a ∨ a = p := by
  constructor
  · rintro ((h | h) | h)
    · exact .inl (.inl h)
    · exact .inr h
    · exact .inl (.inr h)
  · rintro ((h | h) | h)
    · exact .inl (.inl h)
    · exact .inr h
    · exact .inl (.inr h)
theorem LocR.guard (r : LocR K A O H σ ρ) {p : Addr} {xs : List V} (hp : H p = none) : LocR K (fun a => A a ∨ a = p) O (upd H p (.lst xs)) σ ρ ∧ Keep (Avd A O σ) (Avd (fun a => A a ∨ a = p) O σ) H (upd H p (.lst xs)) := by
  have sm : Same H (upd H p (.lst xs)) := same_new hp
  have kp : Keep (Avd A O σ) (Avd (fun a => A a ∨ a = p) O σ) H (upd H p (.lst xs)) := ⟨fun a ys h => Same.rd sm h, fun a ys h n => ⟨sm _ _ h, fun z => by
    rcases avd_more.mp z with z | z
    · exact n z
    · rw [z, hp] at h; cases h⟩, fun a o u h => sm _ _ h, fun a ys h n => ⟨sm _ _ h, fun z => by
    rcases avd_more.mp z with z | z
    · exact n z
    · rw [z, hp] at h; cases h⟩⟩
  refine ⟨⟨r.len, fun a ha => ?_, fun i hi => ?_, r.inj, fun i d hi e => ?_⟩, kp⟩
  · rcases ha with ha | ha
    · cases e : H a with
      | none => exact absurd e (r.dom a ha)
      | some o => rw [sm a o e]; exact fun z => nomatch z
    · rw [ha, upd_same]; exact fun z => nomatch z
  · obtain ⟨c, ys, ds, e1, e2, e3, n, q⟩ := r.own i hi
    refine ⟨c, ys, ds, e1, e2, sm _ _ e3, fun z => ?_, q.keep kp⟩
    rcases z with z | z
    · exact n z
    · rw [z, hp] at e3; cases e3
  · obtain ⟨v, e1, q⟩ := r.rep i d hi e
    exact ⟨v, e1, q.keep kp⟩
/-- the list that is being made grows -/
theorem keep_grow {p : Addr} {xs ys : List V} (hA : B p) (hp : H p = some (.lst xs)) : Keep B B H (upd H p (.lst ys)) := by
  refine ⟨fun a zs h => ?_, fun a zs h n => ?_, fun a o u h => ?_, fun a zs h n => ?_⟩
  · rcases h with h | ⟨o, h⟩
    · exact .inl (by rw [upd_ne (ne_of h hp (by intro z; cases z))]; exact h)
    · exact .inr ⟨o, by rw [upd_ne (ne_of h hp (by intro z; cases z))]; exact h⟩
  · have : a ≠ p := fun e => n (e ▸ hA)
    exact ⟨by rw [upd_ne this]; exact h, n⟩
  · rw [upd_ne (ne_of h hp (by intro z; cases z))]; exact h
  · exact ⟨by rw [upd_ne (ne_of h hp (by intro z; cases z))]; exact h, n⟩
theorem LocR.grow (r : LocR K A O H σ ρ) {p : Addr} {xs ys : List V} (hA : A p) (hp : H p = some (.lst xs)) : LocR K A O (upd H p (.lst ys)) σ ρ := by
  have kp : Keep (Avd A O σ) (Avd A O σ) H (upd H p (.lst ys)) := keep_grow (.inl hA) hp
  refine ⟨r.len, fun a ha z => ?_, fun i hi => ?_, r.inj, fun i d hi e => ?_⟩
  · by_cases h : a = p
    · rw [h, upd_same] at z; cases z
    · rw [upd_ne h] at z; exact r.dom a ha z
  · obtain ⟨c, zs, ds, e1, e2, e3, n, q⟩ := r.own i hi
    have : c ≠ p := fun e => n (e ▸ hA)
    exact ⟨c, zs, ds, e1, e2, by rw [upd_ne this]; exact e3, n, q.keep kp⟩
  · obtain ⟨v, e1, q⟩ := r.rep i d hi e
    exact ⟨v, e1, q.keep kp⟩
/-- what a block's outcome is to end in -/
def Ends' (o : Option (List D × Lc)) (acc : List D) (Fin : List D → Lc → Prop) : Prop := match o with
  | some z => Fin (acc ++ z.1) z.2
  | none => False
abbrev tgX (X : Cx) (O ts : List Nat) (g : GD) : TG := fun v σ H Q => ∃ A ρ d, LocR X.K A O H σ ρ ∧ Rep X.K (Avd A O σ) H v d ∧ PostG X (Pc.no A) O ts σ H (g d ρ) Q
abbrev ttX (X : Cx) (O : List Nat) (t : TD) : TT := tX X O (fun _ => RT) t
abbrev teX (X : Cx) (O : List Nat) (e : ED) : TE := tX X O (fun A => RE X (Pc.no A) O) e
theorem lc_walk {J : It} {ds acc0 : List D} {g : GD} {t : TD} {e : ED} {ts : List Nat} {p : Addr} {H0 : Hp} {accV0 : List V} {Qd : Hp → Prop} (Fin : List D → Lc → Prop) (hv : ∀ i, i ∈ vs → i ∉ O) (hts : ∀ i, i ∈ ts → i ∈ vs) (hA : A p)
    (ri : RI X (Pc.no A) O σ H0 J ds) (lr : LocR X.K A O H0 (wipe σ vs) ρ) (hp : H0 p = some (.lst accV0)) (q0 : RepAll X.K (Avd A O σ) H0 accV0 acc0)
    (h0 : Ends' (loopC g t e vs ds ρ) acc0 Fin) (hsz : ∀ z ρ, Fin z ρ → z.length ≤ sizeLine)
    (hd : ∀ Hn accV accD ρn, (∀ a o, H0 a = some o → ¬ Own O σ a → a ≠ p → Hn a = some o) → LocR X.K A O Hn (wipe σ vs) ρn → Hn p = some (.lst accV) → RepAll X.K (Avd A O σ) Hn accV accD → Fin accD ρn → Qd Hn) :
    ∃ W : Nat → Nat → Hp → Prop, (∃ m, W 0 m H0) ∧ ∀ i m Hi, W i m Hi →
      (J.stop i Hi ∧ Qd Hi) ∨ (J.go i Hi ∧ ∃ Nx : Hp → Prop, (∀ H', Nx H' → ∃ m', m' < m ∧ W (i + 1) m' H') ∧ ∀ x H', J.yld i Hi x H' → tgX X O ts g x (wipe σ vs) H' fun σ2 H2 => wipe σ2 vs = wipe σ vs ∧ ttX X O t σ2 H2 fun b H3 =>
        if b = true then teX X O e σ2 H3 fun y H4 => ∃ acc, H4 p = some (.lst acc) ∧ acc.length < sizeLine ∧ Nx (upd H4 p (.lst (acc ++ [y]))) else Nx H3) := by
  have eo : Own O (wipe σ vs) = Own O σ := own_wipe hv
  have ea : Avd A O (wipe σ vs) = Avd A O σ := avd_wipe hv
  have np : ¬ Own O σ p := fun z => by
    rw [← eo] at z
    obtain ⟨_, _, n⟩ := lr.owned z
    exact n hA
  -- the state at a turn
  let W : Nat → Hp → Prop := fun i Hi => ∃ ρi accV accD, (∀ a o, H0 a = some o → ¬ Own O σ a → a ≠ p → Hi a = some o) ∧ LocR X.K A O Hi (wipe σ vs) ρi ∧ Hi p = some (.lst accV) ∧ RepAll X.K (Avd A O σ) Hi accV accD ∧ Ends' (loopC g t e vs (ds.drop i) ρi) accD Fin
  refine ⟨fun i m Hi => m = ds.length - i ∧ i ≤ ds.length ∧ W i Hi, ⟨ds.length, by omega, Nat.zero_le _, ρ, accV0, acc0, fun _ _ h _ _ => h, lr, hp, q0, h0⟩, ?_⟩
  rintro i m Hi ⟨rfl, hle, ρi, accV, accD, ch, ri1, hpi, qi, hi⟩
  -- what stood at the beginning stands
  have kp : Keep (Avd A O σ) (Avd A O σ) H0 Hi := by
    have own0 : ∀ a, Own O σ a → ∃ xs, H0 a = some (.lst xs) := fun a z => by
      rw [← eo] at z
      obtain ⟨xs, e1, _⟩ := lr.owned z
      exact ⟨xs, e1⟩
    have nn : ∀ a o, H0 a = some o → (∀ xs, o ≠ .lst xs) → Hi a = some o := fun a o h n => ch a o h (fun z => by
      obtain ⟨xs, e1⟩ := own0 a z
      rw [h] at e1
      exact n xs (Option.some.inj e1)) fun z => by
        rw [z, hp] at h
        exact n accV0 (Option.some.inj h).symm
    refine ⟨fun a zs h => ?_, fun a zs h n => ⟨ch a _ h (fun z => n (.inr z)) fun z => n (.inl (z ▸ hA)), n⟩, fun a o u h => nn a _ h (fun _ z => by cases z), fun a zs h n => ⟨nn a _ h (fun _ z => by cases z), n⟩⟩
    rcases h with h | ⟨o, h⟩
    · exact .inl (nn a _ h fun _ z => by cases z)
    · exact .inr ⟨o, nn a _ h fun _ z => by cases z⟩
  obtain ⟨q2, q3⟩ := ri (Avd A O σ) Hi kp
  by_cases hlt : i < ds.length
  · obtain ⟨go, yl⟩ := q2 i _ (List.getElem?_eq_getElem hlt)
    refine .inr ⟨go, W (i + 1), fun H' n => ⟨ds.length - (i + 1), by omega, rfl, hlt, n⟩, fun x H' y => ?_⟩
    obtain ⟨sm, qx⟩ := yl x H' y
    have ri2 := ri1.same sm
    have qi2 := qi.same sm
    have hpi2 : H' p = some (.lst accV) := sm _ _ hpi
    have ch2 : ∀ a o, H0 a = some o → ¬ Own O σ a → a ≠ p → H' a = some o := fun a o h n m => sm _ _ (ch a o h n m)
    rw [List.drop_eq_getElem_cons hlt] at hi
    refine ⟨A, ρi, ds[i], ri2, by rw [ea]; exact qx, ?_⟩
    cases eg : g ds[i] ρi with
    | none =>
      have : loopC g t e vs (ds[i] :: ds.drop (i + 1)) ρi = none := by
        show (g ds[i] ρi).bind _ = _
        rw [eg]
        rfl
      rw [this] at hi
      exact hi.elim
    | some ρ1 =>
      have el : loopC g t e vs (ds[i] :: ds.drop (i + 1)) ρi = (ne (t ρ1)).bind fun q => if q.1 = true then (ne (e q.2)).bind fun r => (loopC g t e vs (ds.drop (i + 1)) (wipeL r.2 vs)).bind fun z => some (r.1 :: z.1, z.2) else loopC g t e vs (ds.drop (i + 1)) (wipeL q.2 vs) := by
        show (g ds[i] ρi).bind _ = _
        rw [eg]
        rfl
      rw [el] at hi
      intro σ2 e1 e2 r2
      have ews : ∀ j, j ∉ vs → σ2[j]? = σ[j]? := fun j hj => (e1 j fun z => hj (hts j z)).trans (wipe_at hj)
      have ew : wipe σ2 vs = wipe σ vs := wipe_congr (e2.trans (wipe_length σ vs)) ews
      refine ⟨ew, ?_⟩
      have eo2 : Own O σ2 = Own O σ := own_congr fun j hj => ews j fun z => hv j z hj
      have ea2 : Avd A O σ2 = Avd A O σ := by unfold Avd; rw [eo2]
      refine ⟨A, ρ1, r2, ?_⟩
      cases et : t ρ1 with
      | err y ρ2 => rw [et] at hi; exact hi.elim
      | stuck => rw [et] at hi; exact hi.elim
      | ok p1 =>
        obtain ⟨b1, ρ2⟩ := p1
        rw [et] at hi
        intro b H3 c3 r3 eb
        have eb' : b = b1 := eb
        subst eb'
        have hi2 : Ends' (if b = true then (ne (e ρ2)).bind fun r => (loopC g t e vs (ds.drop (i + 1)) (wipeL r.2 vs)).bind fun z => some (r.1 :: z.1, z.2) else loopC g t e vs (ds.drop (i + 1)) (wipeL ρ2 vs)) accD Fin := hi
        have hp3 : H3 p = some (.lst accV) := c3 _ _ hpi2 (by rw [eo2]; exact np)
        have q3' : RepAll X.K (Avd A O σ) H3 accV accD := qi2.keep (by have := r2.keep c3; rw [ea2] at this; exact this)
        have ch3 : ∀ a o, H0 a = some o → ¬ Own O σ a → a ≠ p → H3 a = some o := fun a o h n m => c3 _ _ (ch2 a o h n m) (by rw [eo2]; exact n)
        cases b with
        | false =>
          rw [if_neg Bool.false_ne_true]
          rw [if_neg Bool.false_ne_true] at hi2
          have r4 := LocR.wipe r3 hv
          rw [ew] at r4
          exact ⟨wipeL ρ2 vs, accV, accD, ch3, r4, hp3, q3', hi2⟩
        | true =>
          rw [if_pos rfl]
          rw [if_pos rfl] at hi2
          refine ⟨A, ρ2, r3, ?_⟩
          cases ee : e ρ2 with
          | err y ρ3 => rw [ee] at hi2; exact hi2.elim
          | stuck => rw [ee] at hi2; exact hi2.elim
          | ok p2 =>
            obtain ⟨d2, ρ3⟩ := p2
            rw [ee] at hi2
            intro v H4 c4 r4 qv
            have hp4 : H4 p = some (.lst accV) := c4 _ _ hp3 (by rw [eo2]; exact np)
            have kp4 : Keep (Avd A O σ) (Avd A O σ) H3 H4 := by have := r3.keep c4; rw [ea2] at this; exact this
            have q4 := q3'.keep kp4
            have qv2 : Rep X.K (Avd A O σ2) H4 v d2 := qv
            have qv' : Rep X.K (Avd A O σ) H4 v d2 := by rw [ea2] at qv2; exact qv2
            have hi3 : Ends' ((loopC g t e vs (ds.drop (i + 1)) (wipeL ρ3 vs)).bind fun z => some (d2 :: z.1, z.2)) accD Fin := hi2
            cases el2 : loopC g t e vs (ds.drop (i + 1)) (wipeL ρ3 vs) with
            | none => rw [el2] at hi3; exact hi3.elim
            | some z =>
              rw [el2] at hi3
              have hi4 : Fin (accD ++ d2 :: z.1) z.2 := hi3
              have sz := hsz _ _ hi4
              rw [List.length_append, List.length_cons] at sz
              refine ⟨accV, hp4, by rw [q4.length]; omega, ?_⟩
              have r5 := LocR.wipe r4 hv
              rw [ew] at r5
              refine ⟨wipeL ρ3 vs, accV ++ [v], accD ++ [d2], fun a o h n m => by rw [upd_ne m]; exact c4 _ _ (ch3 a o h n m) (by rw [eo2]; exact n), LocR.grow r5 hA hp4, upd_same, ?_, ?_⟩
              · exact (q4.append (.cons qv' .nil)).keep (keep_grow (.inl hA) hp4)
              · rw [el2]
                show Fin (accD ++ [d2] ++ z.1) z.2
                rw [List.append_assoc]
                exact hi4
  · have e : i = ds.length := by omega
    subst e
    rw [List.drop_length] at hi
    have hi2 : Fin (accD ++ []) ρi := hi
    rw [List.append_nil] at hi2
    exact .inl ⟨q3, hd Hi accV accD ρi ch ri1 hpi qi hi2⟩
/-- what a comprehension's own term is to give: the new list at p -/
theorem lc_end {D0 : Lc} {p : Addr} {Hn H1 : Hp} {accV : List V} {accD : List D} {ρ1 ρn : Lc} (hv : ∀ i, i ∈ vs → i ∉ O) (r1 : LocR X.K A O H1 σ ρ1) (hp1 : H1 p = none)
    (ch : ∀ a o, upd H1 p (.lst []) a = some o → ¬ Own O σ a → a ≠ p → Hn a = some o) (rn : LocR X.K (fun a => A a ∨ a = p) O Hn (L2.wipe σ vs) ρn) (hp : Hn p = some (.lst accV)) (q : RepAll X.K (Avd (fun a => A a ∨ a = p) O σ) Hn accV accD) :
    Chg (Own O σ) H1 Hn ∧ LocR X.K A O Hn σ (resL ρ1 vs ρn) ∧ Rep X.K (Avd A O σ) Hn (.ref p) (.lst accD) := by
  have c : Chg (Own O σ) H1 Hn := fun a o h n => by
    have hne : a ≠ p := ne_of_none h hp1
    exact ch a o (by rw [upd_ne hne]; exact h) n hne
  have sub : Keep (Avd (fun a => A a ∨ a = p) O σ) (Avd A O σ) Hn Hn := Keep.less fun a z => avd_more.mpr (.inl z)
  have ea : Avd (fun a => A a ∨ a = p) O (L2.wipe σ vs) = Avd (fun a => A a ∨ a = p) O σ := avd_wipe hv
  refine ⟨c, ⟨?_, fun a ha => rn.dom a (.inl ha), fun i hi => ?_, r1.inj, fun i d hi e => ?_⟩, .lst hp (fun z => r1.avdom p z hp1) (q.keep sub)⟩
  · rw [resL_len, ← rn.len, wipe_length]
  · obtain ⟨b, xs, ds, e1, e2, e3, n, q2⟩ := rn.own i hi
    have hiv : i ∉ vs := fun z => hv i z hi
    rw [wipe_at hiv] at e1
    rw [ea] at q2
    exact ⟨b, xs, ds, e1, by rw [resL_out hiv]; exact e2, e3, fun z => n (.inl z), q2.keep sub⟩
  · by_cases hiv : i ∈ vs
    · obtain ⟨v, e1, q2⟩ := r1.rep i d hi (resL_in hiv e)
      exact ⟨v, e1, q2.keep (r1.keep c)⟩
    · rw [resL_out hiv] at e
      obtain ⟨v, e1, q2⟩ := rn.rep i d hi e
      rw [wipe_at hiv] at e1
      rw [ea] at q2
      exact ⟨v, e1, q2.keep sub⟩
/-- at a walk that keeps its word over a heap with one more list -/
theorem RI.guard {J : It} {ds : List D} {p : Addr} {H1 : Hp} {xs : List V} (ri : RI X G O σ H1 J ds) (r1 : LocR X.K G.A O H1 σ ρ) (hp1 : H1 p = none) : RI X (Pc.no fun a => G.A a ∨ a = p) O σ (upd H1 p (.lst xs)) J ds := by
  intro Bv H' k
  have kp := (r1.guard (xs := xs) hp1).2
  exact ri Bv H' ⟨fun a zs h => k.tup a zs (kp.tup a zs h), fun a zs h n => k.lst a zs (kp.lst a zs h n).1 (kp.lst a zs h n).2, fun a o u h => k.frz a o u (kp.frz a o u h), fun a zs h n => k.dct a zs (kp.dct a zs h n).1 (kp.dct a zs h n).2⟩
theorem lc_read {f : AD} {g : GD} {t : TD} {e : ED} {ts : List Nat} {Q : VK} (hv : ∀ i, i ∈ vs → i ∉ O) (hts : ∀ i, i ∈ ts → i ∈ vs)
    (h : tG X G O (RE X G O) (lstE (compN f g t e vs)) σ H Q) : tLc (tG X G O (RI X G O) f) (tgX X O ts g) (ttX X O t) (teX X O e) vs σ H Q := by
  obtain ⟨ρ, lr, h⟩ := h
  have eo : Own O (L2.wipe σ vs) = Own O σ := own_wipe hv
  refine ⟨ρ, lr, ?_⟩
  have h' : Post X G O σ H (RE X G O σ) ((f ρ).bind fun p => (fitL p.2 vs (loopC g t e vs p.1 (wipeL p.2 vs))).bind fun p => Out.ok (D.lst p.1, p.2)) Q := by
    have e1 : lstE (compN f g t e vs) ρ = ((f ρ).bind fun p => (fitL p.2 vs (loopC g t e vs p.1 (wipeL p.2 vs))).bind fun p => Out.ok (D.lst p.1, p.2)) := by
      unfold lstE compN
      cases f ρ <;> rfl
    rw [← e1]
    exact h
  refine h'.step fun ds ρ1 J H1 r1 q1 c1 h1 p hp => ?_
  obtain ⟨r2, k2⟩ := r1.guard (xs := []) hp
  have r3 := LocR.wipe r2 hv
  refine lc_walk (A := fun a => G.A a ∨ a = p) (p := p) (acc0 := []) (accV0 := []) (fun z ρn => z.length ≤ sizeLine ∧ Post X G O σ H1 (RE X G O σ) (Out.ok (D.lst z, resL ρ1 vs ρn)) Q) hv hts (.inr rfl) (RI.guard q1 r1 hp) r3 upd_same .nil ?_ (fun z ρn hz => hz.1) fun Hn accV accD ρn ch rn hpn qn fin => ?_
  · dsimp only at h1
    cases el : loopC g t e vs ds (wipeL ρ1 vs) with
    | some z =>
      rw [el] at h1
      have h3 : Post X G O σ H1 (RE X G O σ) ((if lnOk z.1.length then Out.ok (z.1, resL ρ1 vs z.2) else Out.stuck).bind fun p => Out.ok (D.lst p.1, p.2)) Q := h1
      split at h3
      · rename_i hz
        exact ⟨of_decide_eq_true hz, h3⟩
      · exact h3.elim
    | none => rw [el] at h1; exact h1.elim
  · obtain ⟨c, rr, rv⟩ := lc_end (D0 := ρ1) hv r1 hp ch rn hpn qn
    exact fin.2 (.ref p) Hn c rr rv
end
end Pl
set_option maxHeartbeats 4000000
namespace Pl
open PySem PySem.Spec L2
section
variable {X : Cx} {io oe : List Nat} {G : Pc io oe} {O Ol ts vs vs1 ts1 : List Nat} {σ : L2.St} {H : Hp} {ρ : Lc}
/-- in a block, whatever is to be left alone -/
theorem tgX_of {tg : Expr} {g : GD} (h : ∀ A, PGp X (Pc.no A) O ts tg g) : PG X tg (tgX X O ts g) := ⟨fun pins s σ H v u Q I r q => by
  obtain ⟨A, ρ, d, lr, qv, q⟩ := q
  exact (h A).run pins s σ H v u Q I r ⟨ρ, d, lr, qv, q⟩⟩
theorem ttX_of {ifs : List Expr} {t : TD} (h : ∀ A, PTsp X (Pc.no A) O ifs t) : PTs X ifs (ttX X O t) := ⟨fun pins s σ H Q I q => by
  obtain ⟨A, q⟩ := q
  exact (h A).run pins s σ H Q I q⟩
theorem teX_of {elt : Expr} {e : ED} (h : ∀ A, PEp X (Pc.no A) O elt e) : PE X elt (teX X O e) := ⟨fun pins s σ H Q I q => by
  obtain ⟨A, q⟩ := q
  exact (h A).run pins s σ H Q I q⟩
abbrev tiX (X : Cx) (O : List Nat) (f : AD) : TI := tX X O (fun A => RI X (Pc.no A) O) f
theorem tiX_of {tg it : Expr} {f : AD} (h : ∀ A, PIp X (Pc.no A) O tg it f) : PI X tg it (tiX X O f) := ⟨fun pins s σ H R I q => by
  obtain ⟨A, q⟩ := q
  exact (h A).run pins s σ H R I q⟩
/-- the block's surroundings -/
abbrev blkX (X : Cx) (s : Shared) (H : Hp) (scope : Scope) (C : Addr) (cl : List (Str × Addr)) (fp : List Addr) : Cx := X.blk s H scope (compEnvC scope cl C X.env) fp
theorem tgB {s : Shared} {H : Hp} {scope : Scope} {C : Addr} {cl : List (Str × Addr)} {fp : List Addr} {tg : Expr} {g : GD} (h : ∀ A, PGp (blkX X s H scope C cl fp) (Pc.no A) O ts tg g) : PG (blkX X s H scope C cl fp) tg (tgX X O ts g) := tgX_of h
theorem ttB {s : Shared} {H : Hp} {scope : Scope} {C : Addr} {cl : List (Str × Addr)} {fp : List Addr} {ifs : List Expr} {t : TD} (h : ∀ A, PTsp (blkX X s H scope C cl fp) (Pc.no A) O ifs t) : PTs (blkX X s H scope C cl fp) ifs (ttX X O t) := ttX_of h
theorem teB {s : Shared} {H : Hp} {scope : Scope} {C : Addr} {cl : List (Str × Addr)} {fp : List Addr} {elt : Expr} {e : ED} (h : ∀ A, PEp (blkX X s H scope C cl fp) (Pc.no A) O elt e) : PE (blkX X s H scope C cl fp) elt (teX X O e) := teX_of h
theorem tiB {s : Shared} {H : Hp} {scope : Scope} {C : Addr} {cl : List (Str × Addr)} {fp : List Addr} {tg it : Expr} {f : AD} (h : ∀ A, PIp (blkX X s H scope C cl fp) (Pc.no A) O tg it f) : PI (blkX X s H scope C cl fp) tg it (tiX X O f) := tiX_of h
theorem p_lc {elt tg iter : Expr} {ifs : List Expr} {scope : Scope} {own : List (Str × Nat)} {vo : List Nat} {pos : Pos} {f : AD} {g : GD} {t : TD} {e : ED} (hc : X.calm = true) (hN : X.N.Nodup) (hi : PIp X G O tg iter f) (ok : BlkOk X.N X.env.scope scope own)
    (hg : ∀ s H C cl fp A, PGp (blkX X s H scope C cl fp) (Pc.no A) O ts tg g) (ht : ∀ s H C cl fp A, PTsp (blkX X s H scope C cl fp) (Pc.no A) O ifs t) (he : ∀ s H C cl fp A, PEp (blkX X s H scope C cl fp) (Pc.no A) O elt e)
    (hv : ∀ i, i ∈ own.map (·.2) → i ∉ O := by decide) (hts : ∀ i, i ∈ ts → i ∈ own.map (·.2) := by decide) (hs : ∀ x, foldedSetIterable iter X.env x = pure x := by intro _; rfl) (hvo : own.map (·.2) = vo := by rfl) :
    PEp X G O (.ListComp elt [⟨tg, iter, ifs, 0⟩] scope pos) (lstE (compN f g t e vo)) := by
  subst hvo
  exact PE.imp (pe_lc hc hN hi ok (fun s H C cl fp => tgB (hg s H C cl fp)) (fun s H C cl fp => ttB (ht s H C cl fp)) (fun s H C cl fp => teB (he s H C cl fp)) hs) fun σ H Q h => lc_read hv hts h
theorem s_lc (i : Nat) {y : Str} {py : Pos} {elt tg iter : Expr} {ifs : List Expr} {scope : Scope} {own : List (Str × Nat)} {vo : List Nat} {pos spos : Pos} {f : AD} {g : GD} {t : TD} {e : ED} (hc : X.calm = true) (hN : X.N.Nodup) (hi : PIp X G O tg iter f) (ok : BlkOk X.N X.env.scope scope own)
    (hg : ∀ s H C cl fp A, PGp (blkX X s H scope C cl fp) (Pc.no A) O ts tg g) (ht : ∀ s H C cl fp A, PTsp (blkX X s H scope C cl fp) (Pc.no A) O ifs t) (he : ∀ s H C cl fp A, PEp (blkX X s H scope C cl fp) (Pc.no A) O elt e)
    (hyl : X.env.scope.names.lookup y = some .local := by rfl) (hy : X.N[i]? = some y := by rfl) (hsw : swapsWith (.ListComp elt [⟨tg, iter, ifs, 0⟩] scope pos) (some (.Name y py)) spos.line X.env = pure true)
    (hv : ∀ i, i ∈ own.map (·.2) → i ∉ O := by decide) (hts : ∀ i, i ∈ ts → i ∈ own.map (·.2) := by decide) (ho : i ∉ O := by decide) (hio : i ∉ io := by decide) (hs : ∀ x, foldedSetIterable iter X.env x = pure x := by intro _; rfl) (hvo : own.map (·.2) = vo := by rfl) :
    PSp X G Ol O O (.Assign [.Name y py] (.ListComp elt [⟨tg, iter, ifs, 0⟩] scope pos) spos) (sAsg (lstE (compN f g t e vo)) (gNm i)) := by
  subst hvo
  refine PS.imp (ps_setLc hc hN hy hyl hsw hi ok (fun s H C cl fp => tgB (hg s H C cl fp)) (fun s H C cl fp => ttB (ht s H C cl fp)) (fun s H C cl fp => teB (he s H C cl fp)) hs) fun Dn σ H h => ?_
  obtain ⟨ρ, lr, h⟩ := h
  exact lc_read hv hts ⟨ρ, lr, PostS.step h fun d ρ1 v H1 r1 q1 c1 h1 => h1 _ H1 (Tr.set ho hio) (r1.set ho q1)⟩
/-- two clauses -/
theorem lc_read2 {f f1 : AD} {g g1 : GD} {t t1 : TD} {e : ED} {Q : VK} (hv : ∀ i, i ∈ vs → i ∉ O) (hv1 : ∀ i, i ∈ vs1 → i ∈ vs) (hts : ∀ i, i ∈ ts → i ∈ vs) (hts1 : ∀ i, i ∈ ts1 → i ∈ vs1)
    (h : tG X G O (RE X G O) (lstE (compN2 f g t f1 g1 t1 e vs vs1)) σ H Q) : tLc2 (tG X G O (RI X G O) f) (tgX X O ts g) (ttX X O t) (tiX X O f1) (tgX X O ts1 g1) (ttX X O t1) (teX X O e) vs vs1 σ H Q := by
  obtain ⟨ρ, lr, h⟩ := h
  have eo : Own O (L2.wipe σ vs) = Own O σ := own_wipe hv
  have hv1' : ∀ i, i ∈ vs1 → i ∉ O := fun i hi => hv i (hv1 i hi)
  refine ⟨ρ, lr, ?_⟩
  have h' : Post X G O σ H (RE X G O σ) ((f ρ).bind fun p => (fitL p.2 vs (loopC2 g t f1 g1 t1 e vs vs1 p.1 (wipeL p.2 vs))).bind fun p => Out.ok (D.lst p.1, p.2)) Q := by
    have e1 : lstE (compN2 f g t f1 g1 t1 e vs vs1) ρ = ((f ρ).bind fun p => (fitL p.2 vs (loopC2 g t f1 g1 t1 e vs vs1 p.1 (wipeL p.2 vs))).bind fun p => Out.ok (D.lst p.1, p.2)) := by
      unfold lstE compN2
      cases f ρ <;> rfl
    rw [← e1]
    exact h
  refine h'.step fun ds ρ1 J H1 r1 q1 c1 h1 p hp => ?_
  obtain ⟨r2, k2⟩ := r1.guard (xs := []) hp
  have r3 := LocR.wipe r2 hv
  have rg := RI.guard (xs := []) q1 r1 hp
  have eo' : ∀ (s : L2.St), (∀ j, j ∉ vs → s[j]? = σ[j]?) → Own O s = Own O σ := fun s hs => own_congr fun j hj => hs j fun z => hv j z hj
  have np : ¬ Own O σ p := fun z => r1.avdom p (.inr z) hp
  let A' : Addr → Prop := fun a => G.A a ∨ a = p
  have hA : A' p := .inr rfl
  -- the word of a turn
  let Fin : List D → Lc → Prop := fun z ρn => z.length ≤ sizeLine ∧ Post X G O σ H1 (RE X G O σ) (Out.ok (D.lst z, resL ρ1 vs ρn)) Q
  let W : Nat → Hp → Prop := fun i Hi => ∃ ρi accV accD, (∀ a o, upd H1 p (.lst []) a = some o → ¬ Own O σ a → a ≠ p → Hi a = some o) ∧ LocR X.K A' O Hi (L2.wipe σ vs) ρi ∧ Hi p = some (.lst accV) ∧ RepAll X.K (Avd A' O σ) Hi accV accD ∧ Ends' (loopC2 g t f1 g1 t1 e vs vs1 (ds.drop i) ρi) accD Fin
  have ea : Avd A' O (L2.wipe σ vs) = Avd A' O σ := avd_wipe hv
  refine ⟨fun i m Hi => m = ds.length - i ∧ i ≤ ds.length ∧ W i Hi, ⟨ds.length, by omega, Nat.zero_le _, wipeL ρ1 vs, [], [], fun _ _ h _ _ => h, r3, upd_same, .nil, ?_⟩, ?_⟩
  · dsimp only at h1
    rw [List.drop_zero]
    cases el : loopC2 g t f1 g1 t1 e vs vs1 ds (wipeL ρ1 vs) with
    | some z =>
      rw [el] at h1
      have h3 : Post X G O σ H1 (RE X G O σ) ((if lnOk z.1.length then Out.ok (z.1, resL ρ1 vs z.2) else Out.stuck).bind fun p => Out.ok (D.lst p.1, p.2)) Q := h1
      split at h3
      · rename_i hz
        exact ⟨of_decide_eq_true hz, h3⟩
      · exact h3.elim
    | none => rw [el] at h1; exact h1.elim
  · rintro i m Hi ⟨rfl, hle, ρi, accV, accD, ch, ri1, hpi, qi, hi⟩
    have kp : Keep (Avd A' O σ) (Avd A' O σ) (upd H1 p (.lst [])) Hi := by
      have own0 : ∀ a, Own O σ a → ∃ xs, upd H1 p (.lst []) a = some (.lst xs) := fun a z => by
        rw [← eo] at z
        obtain ⟨xs, e1, _⟩ := r3.owned z
        exact ⟨xs, e1⟩
      have nn : ∀ a o, upd H1 p (.lst []) a = some o → (∀ xs, o ≠ .lst xs) → Hi a = some o := fun a o h n => ch a o h (fun z => by
        obtain ⟨xs, e1⟩ := own0 a z
        rw [h] at e1
        exact n xs (Option.some.inj e1)) fun z => by
          rw [z, upd_same] at h
          exact n [] (Option.some.inj h).symm
      refine ⟨fun a zs h => ?_, fun a zs h n => ⟨ch a _ h (fun z => n (.inr z)) fun z => n (.inl (.inr z)), n⟩, fun a o u h => nn a _ h (fun _ z => by cases z), fun a zs h n => ⟨nn a _ h (fun _ z => by cases z), n⟩⟩
      rcases h with h | ⟨o, h⟩
      · exact .inl (nn a _ h fun _ z => by cases z)
      · exact .inr ⟨o, nn a _ h fun _ z => by cases z⟩
    obtain ⟨q2, q3⟩ := rg (Avd A' O σ) Hi kp
    by_cases hlt : i < ds.length
    · obtain ⟨go, yl⟩ := q2 i _ (List.getElem?_eq_getElem hlt)
      refine .inr ⟨go, W (i + 1), fun H' n => ⟨ds.length - (i + 1), by omega, rfl, hlt, n⟩, fun x H' y => ?_⟩
      obtain ⟨sm, qx⟩ := yl x H' y
      have ri2 := ri1.same sm
      have qi2 := qi.same sm
      have hpi2 : H' p = some (.lst accV) := sm _ _ hpi
      have ch2 : ∀ a o, upd H1 p (.lst []) a = some o → ¬ Own O σ a → a ≠ p → H' a = some o := fun a o h n m => sm _ _ (ch a o h n m)
      rw [List.drop_eq_getElem_cons hlt] at hi
      refine ⟨A', ρi, ds[i], ri2, by rw [ea]; exact qx, ?_⟩
      cases eg : g ds[i] ρi with
      | none =>
        have : loopC2 g t f1 g1 t1 e vs vs1 (ds[i] :: ds.drop (i + 1)) ρi = none := by
          show (g ds[i] ρi).bind _ = _
          rw [eg]
          rfl
        rw [this] at hi
        exact hi.elim
      | some ρ2 =>
        have el : loopC2 g t f1 g1 t1 e vs vs1 (ds[i] :: ds.drop (i + 1)) ρi = (ne (t ρ2)).bind fun q => if q.1 = true then (ne (f1 q.2)).bind fun p => (loopC g1 t1 e vs1 p.1 (wipeL p.2 vs1)).bind fun z => (loopC2 g t f1 g1 t1 e vs vs1 (ds.drop (i + 1)) (wipeL z.2 vs)).bind fun y => some (z.1 ++ y.1, y.2)
            else loopC2 g t f1 g1 t1 e vs vs1 (ds.drop (i + 1)) (wipeL q.2 vs) := by
          show (g ds[i] ρi).bind _ = _
          rw [eg]
          rfl
        rw [el] at hi
        intro σ2 e1 e2 r2'
        have ews : ∀ j, j ∉ vs → σ2[j]? = σ[j]? := fun j hj => (e1 j fun z => hj (hts j z)).trans (wipe_at hj)
        have lens : σ2.length = σ.length := e2.trans (wipe_length σ vs)
        have ew : L2.wipe σ2 vs = L2.wipe σ vs := wipe_congr lens ews
        refine ⟨ew, ?_⟩
        have eo2 : Own O σ2 = Own O σ := eo' σ2 ews
        have ea2 : Avd A' O σ2 = Avd A' O σ := by unfold Avd; rw [eo2]
        refine ⟨A', ρ2, r2', ?_⟩
        cases et : t ρ2 with
        | err y ρ3 => rw [et] at hi; exact hi.elim
        | stuck => rw [et] at hi; exact hi.elim
        | ok p1 =>
          obtain ⟨b1, ρ3⟩ := p1
          rw [et] at hi
          intro b H3 c3 r3' eb
          have eb' : b = b1 := eb
          subst eb'
          have hi2 : Ends' (if b = true then (ne (f1 ρ3)).bind fun p => (loopC g1 t1 e vs1 p.1 (wipeL p.2 vs1)).bind fun z => (loopC2 g t f1 g1 t1 e vs vs1 (ds.drop (i + 1)) (wipeL z.2 vs)).bind fun y => some (z.1 ++ y.1, y.2)
            else loopC2 g t f1 g1 t1 e vs vs1 (ds.drop (i + 1)) (wipeL ρ3 vs)) accD Fin := hi
          have hp3 : H3 p = some (.lst accV) := c3 _ _ hpi2 (by rw [eo2]; exact np)
          have q3' : RepAll X.K (Avd A' O σ) H3 accV accD := qi2.keep (by have := r2'.keep c3; rw [ea2] at this; exact this)
          have ch3 : ∀ a o, upd H1 p (.lst []) a = some o → ¬ Own O σ a → a ≠ p → H3 a = some o := fun a o h n m => c3 _ _ (ch2 a o h n m) (by rw [eo2]; exact n)
          cases b with
          | false =>
            rw [if_neg Bool.false_ne_true]
            rw [if_neg Bool.false_ne_true] at hi2
            have r4 := LocR.wipe r3' hv
            rw [ew] at r4
            exact ⟨wipeL ρ3 vs, accV, accD, ch3, r4, hp3, q3', hi2⟩
          | true =>
            rw [if_pos rfl]
            rw [if_pos rfl] at hi2
            refine ⟨A', ρ3, r3', ?_⟩
            cases ef : f1 ρ3 with
            | err y ρ4 => rw [ef] at hi2; exact hi2.elim
            | stuck => rw [ef] at hi2; exact hi2.elim
            | ok p2 =>
              obtain ⟨es, ρ4⟩ := p2
              rw [ef] at hi2
              intro J1 H4 c4 r4 rj
              have hp4 : H4 p = some (.lst accV) := c4 _ _ hp3 (by rw [eo2]; exact np)
              have kp4 : Keep (Avd A' O σ) (Avd A' O σ) H3 H4 := by have := r3'.keep c4; rw [ea2] at this; exact this
              have q4 := q3'.keep kp4
              have hi3 : Ends' ((loopC g1 t1 e vs1 es (wipeL ρ4 vs1)).bind fun z => (loopC2 g t f1 g1 t1 e vs vs1 (ds.drop (i + 1)) (wipeL z.2 vs)).bind fun y => some (z.1 ++ y.1, y.2)) accD Fin := hi2
              refine lc_walk (σ := σ2) (A := A') (p := p) (acc0 := accD) (accV0 := accV) (fun z ρn => z.length ≤ sizeLine ∧ Ends' (loopC2 g t f1 g1 t1 e vs vs1 (ds.drop (i + 1)) (wipeL ρn vs)) z Fin) hv1' hts1 hA rj (LocR.wipe r4 hv1') hp4 (by rw [ea2]; exact q4) ?_ (fun z ρn hz => hz.1)
                fun Hn accVn accDn ρn chn rn hpn qn fin => ?_
              · cases el2 : loopC g1 t1 e vs1 es (wipeL ρ4 vs1) with
                | none => rw [el2] at hi3; exact hi3.elim
                | some z =>
                  rw [el2] at hi3
                  have hi4 : Ends' ((loopC2 g t f1 g1 t1 e vs vs1 (ds.drop (i + 1)) (wipeL z.2 vs)).bind fun y => some (z.1 ++ y.1, y.2)) accD Fin := hi3
                  cases el3 : loopC2 g t f1 g1 t1 e vs vs1 (ds.drop (i + 1)) (wipeL z.2 vs) with
                  | none => rw [el3] at hi4; exact hi4.elim
                  | some y =>
                    rw [el3] at hi4
                    have hi5 : Fin (accD ++ (z.1 ++ y.1)) y.2 := hi4
                    have sz := hi5.1
                    simp only [List.length_append] at sz
                    refine ⟨by rw [List.length_append]; omega, ?_⟩
                    rw [el3]
                    show Fin (accD ++ z.1 ++ y.1) y.2
                    rw [List.append_assoc]
                    exact hi5
              · -- the inner walk is through
                have rw1 := LocR.wipe rn hv
                have ew2 : L2.wipe (L2.wipe σ2 vs1) vs = L2.wipe σ vs := wipe_congr ((wipe_length σ2 vs1).trans lens) fun j hj => (wipe_at fun z => hj (hv1 j z)).trans (ews j hj)
                rw [ew2] at rw1
                rw [ea2] at qn
                refine ⟨wipeL ρn vs, accVn, accDn, fun a o h n m => ?_, rw1, hpn, qn, fin.2⟩
                exact chn a o (c4 _ _ (ch3 a o h n m) (by rw [eo2]; exact n)) (by rw [eo2]; exact n) m
    · have e : i = ds.length := by omega
      subst e
      rw [List.drop_length] at hi
      have hi2 : Fin (accD ++ []) ρi := hi
      rw [List.append_nil] at hi2
      obtain ⟨c, rr, rv⟩ := lc_end (D0 := ρ1) hv r1 hp ch ri1 hpi qi
      exact .inl ⟨q3, hi2.2 (.ref p) Hi c rr rv⟩
theorem p_lc2 {elt tg iter tg1 iter1 : Expr} {ifs ifs1 : List Expr} {scope : Scope} {own : List (Str × Nat)} {vo : List Nat} {pos : Pos} {f f1 : AD} {g g1 : GD} {t t1 : TD} {e : ED} (vs1 : List Nat) (hc : X.calm = true) (hN : X.N.Nodup) (hi : PIp X G O tg iter f) (ok : BlkOk X.N X.env.scope scope own)
    (hg : ∀ s H C cl fp A, PGp (blkX X s H scope C cl fp) (Pc.no A) O ts tg g) (ht : ∀ s H C cl fp A, PTsp (blkX X s H scope C cl fp) (Pc.no A) O ifs t)
    (hi1 : ∀ s H C cl fp A, PIp (blkX X s H scope C cl fp) (Pc.no A) O tg1 iter1 f1) (hg1 : ∀ s H C cl fp A, PGp (blkX X s H scope C cl fp) (Pc.no A) O ts1 tg1 g1) (ht1 : ∀ s H C cl fp A, PTsp (blkX X s H scope C cl fp) (Pc.no A) O ifs1 t1)
    (he : ∀ s H C cl fp A, PEp (blkX X s H scope C cl fp) (Pc.no A) O elt e)
    (hv : ∀ i, i ∈ own.map (·.2) → i ∉ O := by decide) (hv1 : ∀ i, i ∈ vs1 → i ∈ own.map (·.2) := by decide) (hts : ∀ i, i ∈ ts → i ∈ own.map (·.2) := by decide) (hts1 : ∀ i, i ∈ ts1 → i ∈ vs1 := by decide)
    (hs : ∀ x, foldedSetIterable iter X.env x = pure x := by intro _; rfl) (hs1 : ∀ env x, foldedSetIterable iter1 env x = pure x := by intro _ _; rfl) (hvo : own.map (·.2) = vo := by rfl) :
    PEp X G O (.ListComp elt [⟨tg, iter, ifs, 0⟩, ⟨tg1, iter1, ifs1, 0⟩] scope pos) (lstE (compN2 f g t f1 g1 t1 e vo vs1)) := by
  subst hvo
  exact PE.imp (pe_lc2 hc hN hi ok hv1 (fun s H C cl fp => tgB (hg s H C cl fp)) (fun s H C cl fp => ttB (ht s H C cl fp)) (fun s H C cl fp => tiB (hi1 s H C cl fp)) (fun s H C cl fp => tgB (hg1 s H C cl fp)) (fun s H C cl fp => ttB (ht1 s H C cl fp)) (fun s H C cl fp => teB (he s H C cl fp)) hs hs1)
    fun σ H Q h => lc_read2 hv hv1 hts hts1 h
theorem s_lc2 (i : Nat) {y : Str} {py : Pos} {elt tg iter tg1 iter1 : Expr} {ifs ifs1 : List Expr} {scope : Scope} {own : List (Str × Nat)} {vo : List Nat} {pos spos : Pos} {f f1 : AD} {g g1 : GD} {t t1 : TD} {e : ED} (vs1 : List Nat) (hc : X.calm = true) (hN : X.N.Nodup) (hi : PIp X G O tg iter f) (ok : BlkOk X.N X.env.scope scope own)
    (hg : ∀ s H C cl fp A, PGp (blkX X s H scope C cl fp) (Pc.no A) O ts tg g) (ht : ∀ s H C cl fp A, PTsp (blkX X s H scope C cl fp) (Pc.no A) O ifs t)
    (hi1 : ∀ s H C cl fp A, PIp (blkX X s H scope C cl fp) (Pc.no A) O tg1 iter1 f1) (hg1 : ∀ s H C cl fp A, PGp (blkX X s H scope C cl fp) (Pc.no A) O ts1 tg1 g1) (ht1 : ∀ s H C cl fp A, PTsp (blkX X s H scope C cl fp) (Pc.no A) O ifs1 t1)
    (he : ∀ s H C cl fp A, PEp (blkX X s H scope C cl fp) (Pc.no A) O elt e)
    (hyl : X.env.scope.names.lookup y = some .local := by rfl) (hy : X.N[i]? = some y := by rfl) (hsw : swapsWith (.ListComp elt [⟨tg, iter, ifs, 0⟩, ⟨tg1, iter1, ifs1, 0⟩] scope pos) (some (.Name y py)) spos.line X.env = pure true)
    (hv : ∀ i, i ∈ own.map (·.2) → i ∉ O := by decide) (hv1 : ∀ i, i ∈ vs1 → i ∈ own.map (·.2) := by decide) (hts : ∀ i, i ∈ ts → i ∈ own.map (·.2) := by decide) (hts1 : ∀ i, i ∈ ts1 → i ∈ vs1 := by decide)
    (ho : i ∉ O := by decide) (hio : i ∉ io := by decide) (hs : ∀ x, foldedSetIterable iter X.env x = pure x := by intro _; rfl) (hs1 : ∀ env x, foldedSetIterable iter1 env x = pure x := by intro _ _; rfl) (hvo : own.map (·.2) = vo := by rfl) :
    PSp X G Ol O O (.Assign [.Name y py] (.ListComp elt [⟨tg, iter, ifs, 0⟩, ⟨tg1, iter1, ifs1, 0⟩] scope pos) spos) (sAsg (lstE (compN2 f g t f1 g1 t1 e vo vs1)) (gNm i)) := by
  subst hvo
  refine PS.imp (ps_setLc2 hc hN hy hyl hsw hi ok hv1 (fun s H C cl fp => tgB (hg s H C cl fp)) (fun s H C cl fp => ttB (ht s H C cl fp)) (fun s H C cl fp => tiB (hi1 s H C cl fp)) (fun s H C cl fp => tgB (hg1 s H C cl fp)) (fun s H C cl fp => ttB (ht1 s H C cl fp)) (fun s H C cl fp => teB (he s H C cl fp)) hs hs1)
    fun Dn σ H h => ?_
  obtain ⟨ρ, lr, h⟩ := h
  exact lc_read2 hv hv1 hts hts1 ⟨ρ, lr, PostS.step h fun d ρ1 v H1 r1 q1 c1 h1 => h1 _ H1 (Tr.set ho hio) (r1.set ho q1)⟩
end
end Pl
set_option maxHeartbeats 4000000
namespace Pl
open PySem PySem.Spec L2
/-! ### enumerate(tuple) -/
set_option maxHeartbeats 8000000 in
theorem enum_new1 {v : Value} {ob : Obj} {Hb : Heap → Prop} (B : Begins v ob Hb) :
    Meets (Builtin.«enumerate.__new__» ⟨[.type "enumerate", v], []⟩) (fun _ Rr st => Hb st.heap ∧ Rr (.ok (.ret (.ref (st.heap.push ob).objs.size)))
        { st with heap := (st.heap.push ob).push { cls := .type "enumerate", data := .fields #[.none, .bool false, .ref st.heap.objs.size, rawInt 0, .none, .none] } }) :=
  .of_wp fun prog w A Rr st hh => by
    obtain ⟨hp, gg, dr, tk, oo⟩ := st
    obtain ⟨b1, b2⟩ := hh
    have sb := sub_enumerate
    have qq : ∀ {A' : Around} {E : Value → Shared → Prop} {Q : Value → Shared → Prop}, Q (.ref hp.objs.size) ⟨hp.push ob, gg, dr, tk, oo⟩ → wpAny (model prog w) A' (pyIter v) Q E ⟨hp, gg, dr, tk, oo⟩ := fun z => B.iter prog w _ _ ⟨hp, gg, dr, tk, oo⟩ _ b1 z
    wp_walk using qq
    refine wpAny_stack_any fun sk => wpAny_pure ?_
    split
    · rename_i cc _ _ _ _ _
      cases (cc == Value.type "enumerate") <;> (wp_walk using qq; exact ⟨_, rfl, b2⟩)
    · wp_walk using qq
      exact ⟨_, rfl, b2⟩
theorem enum_call1 {prog : Program} {w : World} {A : Around} {E : Value → Shared → Prop} {st : Shared} {v : Value} {ob : Obj} {Hb : Heap → Prop} {Q : Value → Shared → Prop} (B : Begins v ob Hb) (b1 : Hb st.heap)
    (k : ∀ g, IsEnum g (st.heap.objs.size + 1) st.heap.objs.size 0 .none → g.get? st.heap.objs.size = some ob → (∀ b o, st.heap.get? b = some o → g.get? b = some o) → Q (.ref (st.heap.objs.size + 1)) { st with heap := g }) :
    wpAny (model prog w) A (call (.type "enumerate") [v]) Q E st := by
  refine callType_new F.called_enumerate (by decide) (F.typeCall_enumerate_1 _) (F.newCall_enumerate_1 _) (fun z => F.args_object_init_2 z _) F.entry_enumerate_new (enum_new1 B) ⟨b1, ?_⟩
  have sz : (st.heap.push ob).objs.size = st.heap.objs.size + 1 := by exact Heap.size_push ..
  show _ ∧ _
  rw [sz]
  have en : IsEnum ((st.heap.push ob).push { cls := .type "enumerate", data := .fields #[.none, .bool false, .ref st.heap.objs.size, rawInt 0, .none, .none] }) (st.heap.objs.size + 1) st.heap.objs.size 0 .none := by
    have z := Heap.get?_push_size (st.heap.push ob) (o := { cls := .type "enumerate", data := .fields #[.none, .bool false, .ref st.heap.objs.size, rawInt 0, .none, .none] }) rfl
    rwa [sz] at z
  exact ⟨⟨_, en, rfl⟩, k _ en (Heap.get?_push_of_some _ (Heap.get?_push_size _ B.free)) fun b o x => Heap.get?_push_of_some _ (Heap.get?_push_of_some _ x)⟩
/-- the tuple at a, each item in a new pair -/
def IteT (K : PySem.W.Frag) (a : Addr) : It :=
  ⟨fun i H => ∃ (xs : List V) (x : V), SqT K H a xs ∧ xs[i]? = some x, fun i H v H' => ∃ T x, v = .ref T ∧ H T = none ∧ H' = upd H T (.tup [.int (i : Nat), x]) ∧ ∀ xs, SqT K H a xs → xs[i]? = some x, fun i H => ∃ xs : List V, SqT K H a xs ∧ xs.length ≤ i⟩
theorem turn_enumT {P : Program} {w : World} {K : PySem.W.Frag} {elts : List Expr} {kk : Nat} {tp : Pos} (a e it : Addr) :
    Turn P w K (.Tuple elts kk tp) (IteT K a) [e, it] e (fun i h => (∃ old, IsEnum h e it ((i : Nat) : Int) old) ∧ h.IsTupleIter it a i ∧ e ≠ it) where
  mem := List.mem_cons_self ..
  obj := fun i h st b hb => by
    obtain ⟨⟨old, he⟩, ⟨o, ho, hc, hd⟩, _⟩ := st
    rcases List.mem_cons.mp hb with z | z
    · rw [z]; exact ⟨_, he, fun v q => (nomatch q)⟩
    · rw [List.mem_singleton.mp z]; exact ⟨o, ho, fun v q => by rw [hd] at q; cases q⟩
  keep := fun i h g st k => ⟨st.1.imp fun _ q => k e (List.mem_cons_self ..) _ q, st.2.1.at fun o q => k it (by simp) o q, st.2.2⟩
  item := by
    intro X hP hw hK hc i pins s σ H E I hf st hg
    subst hP hw hK
    obtain ⟨⟨old, he⟩, hit, hne⟩ := st
    obtain ⟨xs, x, hq, hx⟩ := hg
    obtain ⟨its, rv, p, hz⟩ := I.tuple hq
    obtain ⟨u, hu, ru⟩ := rv.get hx
    have lte : e < s.heap.objs.size := Heap.lt_size he
    have lti : it < s.heap.objs.size := let ⟨_, q, _⟩ := hit; Heap.lt_size q
    have tup : s.heap.IsTuple a its.toArray := p
    have ait : a ≠ it := fun z => by
      obtain ⟨o1, q1, c1, _⟩ := hit
      obtain ⟨o2, q2, c2, _⟩ := tup
      rw [z, q1] at q2
      cases q2
      rw [c1] at c2
      exact absurd c2 (by decide)
    have ae : e ≠ a := fun z => by
      obtain ⟨o2, q2, c2, _⟩ := tup
      rw [← z, he] at q2
      cases q2
      exact absurd (Value.type.inj c2) (by decide)
    have DD := Draws.tuple (prog := X.prog) (w := X.w) (A := X.A.in1) (I.ok.hd hc) it a ait its.toArray
    refine wpAny_pyNext_enum_itemD DD he ⟨hit, tup⟩ (show i < its.toArray.size from ?_) hne (fun z => ?_) fun y h1 tk hy ho hst hT hsz hk => ?_
    · have := (List.getElem?_eq_some_iff.mp hu).1
      simpa using this
    · rcases List.mem_cons.mp z with z | z
      · exact hne z
      · exact ae (List.mem_singleton.mp z)
    · have ey : y = u := by
        have h2 : its[i]? = some y := by simpa using hy
        rw [hu] at h2
        exact (Option.some.inj h2).symm
      subst ey
      refine ⟨_, rfl, wpAny_letOwnedTupleGo_enum (s := { s with heap := h1, toks := tk + 1 }) ho fun h2 he2 sb => ?_⟩
      have hT2 : h2.get? s.heap.objs.size = some { cls := .type "tuple", data := .seq #[.int i tk, y] } := by rw [sb.2 _ (Nat.ne_of_gt lte)]; exact hT
      have kk2 : ∀ b ob, b ∉ [e, it] → s.heap.get? b = some ob → h2.get? b = some ob := fun b ob hb q => by
        have n1 : b ≠ e := fun z => hb (z ▸ List.mem_cons_self ..)
        have n2 : b ≠ it := fun z => hb (by rw [z]; simp)
        rw [sb.2 b n1]
        exact hk b ob n1 n2 q
      have nw : ObjOk X.prog X.w (upd H s.heap.objs.size (.tup [.int (i : Nat), x])) h2 s.heap.objs.size (.tup [.int (i : Nat), x]) := ⟨(by decide : 2 ≤ sizeLine), [.int i tk, y], .cons ⟨_, rfl⟩ (.cons ru .nil), ⟨_, hT2, rfl, _, rfl⟩⟩
      have I1 : Inv X pins σ (upd H s.heap.objs.size (.tup [.int (i : Nat), x])) { s with heap := h2, toks := tk + 1 } := I.turnedNew (ch := [e, it]) kk2 hf (Nat.le_refl _) nw
      refine ⟨.ref s.heap.objs.size, _, I1, rfl, ⟨_, x, rfl, I.hok.fresh (Nat.le_refl _), rfl, fun ys hy => by rw [I.tuple_inj hy hq]; exact hx⟩, ⟨⟨y, ?_⟩, hst.1.at fun o q => (sb.2 it (Ne.symm hne)).trans q, hne⟩, fun b hb => ?_⟩
      · rw [show ((i + 1 : Nat) : Int) = (i : Int) + 1 by omega]
        exact he2
      · have lt : b < s.heap.objs.size := by
          rcases List.mem_cons.mp hb with z | z
          · rw [z]; exact lte
          · rw [List.mem_singleton.mp z]; exact lti
        rw [upd_ne (Nat.ne_of_lt lt)]
        exact (hf b hb).1
  done := by
    intro X hP hw hK hc i pins s σ H E I hf st hg
    subst hP hw hK
    obtain ⟨⟨old, he⟩, hit, hne⟩ := st
    obtain ⟨xs, hq, hx⟩ := hg
    obtain ⟨its, rv, p, hz⟩ := I.tuple hq
    obtain ⟨f0, f1, f2, f3, f4, f5⟩ := hf it (by simp)
    have hl := rv.length
    have tup : s.heap.IsTuple a its.toArray := p
    have nn : its.toArray[i]? = none := by simp; omega
    have TT : s.TypeIs (.ref e) "enumerate" := ⟨_, he, rfl⟩
    unfold pyNext
    refine wpAny_bind (wpAny_attempt (wpAny_callSpecial?_slot (name := Str.ofString "__next__") TT F.slot_enumerate_next (wpAny_call_entry F.slot_enumerate_next TT F.entry_enumerate_next ?_ (F.args_enumerate_next_1 _))))
    show wpAny _ _ (field (.ref e) 2 >>= _) _ _ s
    refine wpAny_bind (wpAny_field he rfl (x := .ref it) rfl ?_)
    refine wpAny_bind (PySem.wpAny_nextOf_tuple_end (show X.A.in1.handled = none from I.ok.hd hc) hit tup nn fun g b eb xb => ?_)
    obtain ⟨o, ho, hcl⟩ := xb
    refine wpAny_bind (wpAny_isInstance (T := "StopIteration") (b := true) ⟨o, ho, hcl⟩ isSubtype_stop ?_)
    exact wpAny_pure ⟨rfl, I.turned (t' := s.toks) (fun b o hb q => eb b o hb q) f0 f1 f3 f4 f5⟩
  self := fun A i s Q E st h => let ⟨⟨_, he⟩, _⟩ := st; wpAny_pyIter_enum he h
def iEnumT (K : PySem.W.Frag) (ta : TA) : TI := fun σ H R => ta σ H fun vs H1 => ∃ a xs, vs = [.ref a] ∧ SqT K H1 a xs ∧ R (IteT K a) H1
theorem pi_enumT {X : Cx} {e : Expr} {ta : TA} {p pos tp : Pos} {elts : List Expr} {kk : Nat} (hg : Gl X "enumerate") (hm : X.mg "enumerate" = none) (ha : PA X [e] ta) (hs : starEach [e] X.env = [(false, eval e X.env)]) :
    PI X (.Tuple elts kk tp) (.Call (.Name "enumerate" p) [e] [] pos) (iEnumT X.K ta) := by
  refine ⟨fun pins s σ H R I h => ?_⟩
  refine PyProof.Rows.Call_ (ld_blt I hg hm PyProof.Rows.boot_enumerate (PyProof.Rows.callWith_type1 (thn (ha.run pos pins s σ H _ I h) fun us s1 ⟨vs, H1, I1, r1, q1⟩ => ?_) hs rfl))
  obtain ⟨a, xs, rfl, hq, q⟩ := q1
  obtain ⟨its, rv, p', hz⟩ := I1.tuple hq
  have tup : s1.heap.IsTuple a its.toArray := p'
  cases r1 with
  | cons r rr =>
    cases rr
    cases r
    refine enum_call1 (begins_tuple a its.toArray) tup fun g en gi gk => wpAny_pyIter_enum en ?_
    have I2 : Inv X pins σ H1 { s1 with heap := g } := I1.kept (t' := s1.toks) gk
    refine ⟨s1.heap.objs.size + 1, [s1.heap.objs.size + 1, s1.heap.objs.size], _, _, H1, rfl, I2, turn_enumT a (s1.heap.objs.size + 1) s1.heap.objs.size, ⟨⟨.none, en⟩, ⟨_, gi, rfl, rfl⟩, Nat.succ_ne_self _⟩, fun b hb => ?_, q⟩
    have le : s1.heap.objs.size ≤ b := by
      rcases List.mem_cons.mp hb with z | z
      · rw [z]; exact Nat.le_succ _
      · rw [List.mem_singleton.mp z]; exact Nat.le_refl _
    exact I1.fpOk le (I1.hok.fresh le)
/-- enumerate(l): l a list, a tuple -/
def enD : Nat → List D → List D
  | _, [] => []
  | k, d :: r => .tup [.int (k : Nat), d] :: enD (k + 1) r
theorem enD_len : ∀ (ds : List D) (k : Nat), (enD k ds).length = ds.length
  | [], _ => rfl
  | _ :: r, k => by show (enD (k + 1) r).length + 1 = _; rw [enD_len r]; rfl
theorem enD_at : ∀ (ds : List D) (k i : Nat) (x : D), (enD k ds)[i]? = some x → ∃ d, ds[i]? = some d ∧ x = .tup [.int ((k + i : Nat) : Int), d]
  | [], _, _, _, h => by cases h
  | d :: r, k, 0, x, h => ⟨d, rfl, (Option.some.inj h).symm⟩
  | d :: r, k, i + 1, x, h => by
    obtain ⟨d', e, q⟩ := enD_at r (k + 1) i x h
    exact ⟨d', e, by rw [q, show k + 1 + i = k + (i + 1) by omega]⟩
def iEn (f : ED) : AD := fun ρ => (f ρ).bind fun p => match p.1 with
  | .tup ds => .ok (enD 0 ds, p.2)
  | .lst ds => .ok (enD 0 ds, p.2)
  | .fl ds => .ok (enD 0 ds, p.2)
  | _ => .stuck
section
variable {X : Cx} {io oe : List Nat} {G : Pc io oe} {O : List Nat} {σ : L2.St} {H : Hp}
theorem ri_en {J : It} {Hq : Hp → List V → Prop} {H : Hp} {xs : List V} {ds : List D} (hgo : ∀ i H x, Hq H xs → xs[i]? = some x → J.go i H) (hy : ∀ i H v H', Hq H xs → J.yld i H v H' → ∃ T x, v = .ref T ∧ H T = none ∧ H' = upd H T (.tup [.int (i : Nat), x]) ∧ xs[i]? = some x)
    (hst : ∀ i H, Hq H xs → xs.length ≤ i → J.stop i H) (hk : ∀ Bv H', Keep (Avd G.A O σ) Bv H H' → Hq H' xs) (q : RepAll X.K (Avd G.A O σ) H xs ds) : RI X G O σ H J (enD 0 ds) := by
  intro Bv H' k
  have hs := hk Bv H' k
  refine ⟨fun i x e => ?_, hst _ _ hs (by rw [enD_len]; exact Nat.le_of_eq q.length)⟩
  obtain ⟨d, ed, rfl⟩ := enD_at ds 0 i x e
  obtain ⟨v, ev, qv⟩ := q.get ed
  refine ⟨hgo i H' v hs ev, fun x H'' y => ?_⟩
  obtain ⟨T, z, rfl, n, rfl, g⟩ := hy i H' x H'' hs y
  rw [ev] at g
  cases g
  refine ⟨same_new n, ?_⟩
  rw [Nat.zero_add]
  exact new_tup (.cons (.int _) (.cons (qv.keep k) .nil)) n
theorem i_enum {e : Expr} {f : ED} {p pos tp : Pos} {elts : List Expr} {kk : Nat} (he : PEp X G O e f) (hm : X.mg "enumerate" = none) (hg : Gl X "enumerate" := by rfl) (hs : starEach [e] X.env = (false, eval e X.env) :: starEach [] X.env := by rfl) :
    PIp X G O (.Tuple elts kk tp) (.Call (.Name "enumerate" p) [e] [] pos) (iEn f) := by
  have ha := pa_cons he pa_nil hs
  refine PI.imp (PI.or (pi_enum hg hm ha hs) (pi_enumT hg hm ha hs)) fun σ H R h => ?_
  obtain ⟨ρ, lr, h⟩ := h
  have h0 : Post X G O σ H (RI X G O σ) ((f ρ).bind fun p => match p.1 with | .tup ds => .ok (enD 0 ds, p.2) | .lst ds => .ok (enD 0 ds, p.2) | .fl ds => .ok (enD 0 ds, p.2) | _ => .stuck) R := h
  cases ef : f ρ with
  | err y ρ1 =>
    rw [ef] at h0
    exact .inl ⟨ρ, lr, by rw [ef]; exact h0⟩
  | stuck => rw [ef] at h0; exact h0.elim
  | ok p =>
    obtain ⟨d, ρ1⟩ := p
    rw [ef] at h0
    cases d with
    | tup ds =>
      refine .inr ⟨ρ, lr, ?_⟩
      rw [ef]
      intro v H1 c1 r1 q1
      obtain ⟨a, xs, rfl, hs, ra⟩ := Rep.tup_inv q1
      exact ⟨a, xs, rfl, hs, h0 _ H1 c1 r1 (ri_en (Hq := fun H xs => SqT X.K H a xs) (fun i H x hq e => ⟨xs, x, hq, e⟩) (fun i H v H' hq ⟨T, x, e1, e2, e3, e4⟩ => ⟨T, x, e1, e2, e3, e4 _ hq⟩) (fun i H hq e => ⟨xs, hq, e⟩) (fun Bv H' k => k.sqT hs) ra)⟩
    | lst ds =>
      refine .inl ⟨ρ, lr, ?_⟩
      rw [ef]
      intro v H1 c1 r1 q1
      obtain ⟨a, xs, rfl, hs, n, ra⟩ := Rep.lst_inv q1
      exact ⟨a, xs, rfl, SqL.of hs, h0 _ H1 c1 r1 (ri_en (Hq := fun H xs => SqL X.K H a xs) (fun i H x hq e => ⟨xs, x, hq, e⟩) (fun i H v H' hq ⟨T, x, e1, e2, e3, e4⟩ => ⟨T, x, e1, e2, e3, e4 _ hq⟩) (fun i H hq e => ⟨xs, hq, e⟩) (fun Bv H' k => SqL.of (k.lst a xs hs n).1) ra)⟩
    | fl ds =>
      refine .inl ⟨ρ, lr, ?_⟩
      rw [ef]
      intro v H1 c1 r1 q1
      obtain ⟨a, xs, rfl, hs, ra⟩ := Rep.fl_inv q1
      exact ⟨a, xs, rfl, hs.sq, h0 _ H1 c1 r1 (ri_en (Hq := fun H xs => SqL X.K H a xs) (fun i H x hq e => ⟨xs, x, hq, e⟩) (fun i H v H' hq ⟨T, x, e1, e2, e3, e4⟩ => ⟨T, x, e1, e2, e3, e4 _ hq⟩) (fun i H hq e => ⟨xs, hq, e⟩) (fun Bv H' k => (k.sqF hs).sq) ra)⟩
    | _ => exact h0.elim
end
/-! ### try -/
/-- a clause: which errors it takes, and what it does -/
abbrev Hdl := (Str → Option Bool) × SD
def tryH (x : Exc) : List Hdl → SD
  | [], ρ => .err x ρ
  | h :: r, ρ => match h.1 x.cls with
    | some true => (match h.2 ρ with | .ok p => .ok p | _ => .stuck)
    | some false => tryH x r ρ
    | none => .stuck
def sTry (b : SD) (hs : List Hdl) : SD := fun ρ => match b ρ with
  | .ok p => .ok p
  | .err x ρ' => tryH x hs ρ'
  | .stuck => .stuck
/-- the surroundings of a try's body, of a clause -/
abbrev Pc.tr {io oe : List Nat} (G : Pc io oe) (ob : List Nat) (W : WX) : Pc io ob := ⟨G.A, W⟩
abbrev Pc.hs {io oe : List Nat} (G : Pc io oe) : Pc io [] := ⟨G.A, fun _ _ _ _ => False⟩
/-- what a clause's test says of the classes -/
def Ck (K : PySem.W.Frag) (mg : Str → Option Value) (c : Value) (ck : Str → Option Bool) : Prop := ∀ (y : Str) (C : Addr) (b : Bool), mg y = some (.ref C) → ck y = some b → PySem.W.exmOne K (.ref C) c = some b
inductive HdsP (X : Cx) {io oe : List Nat} (G : Pc io oe) (Ol oe' O' : List Nat) : List ExceptHandler → List Hdl → Prop
  | nil : HdsP X G Ol oe' O' [] []
  | cons {x : Str} {c : Value} {np pos : Pos} {b0 : Stmt} {su : List Stmt} {hs : List ExceptHandler} {l : List Hdl} {ck : Str → Option Bool} {s : SD} (hc : Names X x c) (hk : Ck X.K X.mg c ck)
      (hsu : ∀ (a : Addr) (pn : List (Addr × Obj)), PSsp (X.suite a pn) G.hs Ol oe' O' (b0 :: su) s) (r : HdsP X G Ol oe' O' hs l) :
      HdsP X G Ol oe' O' (.ExceptHandler (some (.Name x np)) none (b0 :: su) pos :: hs) ((ck, s) :: l)
section
variable {X : Cx} {io oe oe' : List Nat} {G : Pc io oe} {Ol O O' : List Nat} {k : Nat}
/-- what the clauses do, as the walk's clauses -/
theorem hdsP_ok {hs : List ExceptHandler} {l : List Hdl} (h : HdsP X G Ol oe' O' hs l) : ∃ L, HdsOk X hs L ∧
    ∀ (Dn : Ends) (x : Exc) (cls : Value) (dd : Option Addr) (σ : L2.St) (H : Hp) (ρ : Lc), LocR X.K G.A oe' H σ ρ → ErrR X.K X.mg x cls dd H → (∀ (σ0 : L2.St) (H0 : Hp) (O0 : List Nat), Tr io O0 σ0 H0 oe' σ H → PostS X G Ol O0 O' σ0 H0 (tryH x l ρ) Dn →
      (∀ i, i ∈ oe → i ∈ oe') → wMany X.K G.EX Dn L cls dd σ H) := by
  induction h with
  | nil =>
    refine ⟨[], .nil, fun Dn x cls dd σ H ρ lr er σ0 H0 O0 t h s => ?_⟩
    exact h cls dd σ H (t.trans (Tr.weak s)) (lr.weak s) er
  | @cons y c np pos b0 su hs l ck s hc hk hsu r ih =>
    obtain ⟨L, hL, hw⟩ := ih
    refine ⟨(c, fun _ _ _ => tS X G.hs Ol oe' O' s) :: L, .cons hc (fun a ob cls d pn _ _ => hsu a _) hL, fun Dn x cls dd σ H ρ lr er σ0 H0 O0 t h sb => ?_⟩
    obtain ⟨C, gC, rfl, er2⟩ := er
    cases ek : ck x.cls with
    | none =>
      have h2 : PostS X G Ol O0 O' σ0 H0 (match ck x.cls with | some true => (match s ρ with | .ok p => .ok p | _ => .stuck) | some false => tryH x l ρ | none => .stuck) Dn := h
      rw [ek] at h2
      exact h2.elim
    | some b =>
      have h2 : PostS X G Ol O0 O' σ0 H0 (match ck x.cls with | some true => (match s ρ with | .ok p => .ok p | _ => .stuck) | some false => tryH x l ρ | none => .stuck) Dn := h
      rw [ek] at h2
      refine ⟨b, hk _ _ _ gC ek, fun eb a ha => ?_, fun eb => ?_⟩
      · subst eb
        refine ⟨ρ, lr, ?_⟩
        have h3 : PostS X G Ol O0 O' σ0 H0 (match s ρ with | .ok p => .ok p | _ => .stuck) Dn := h2
        cases es : s ρ with
        | ok p =>
          rw [es] at h3
          have h4 := PostS.from t h3
          obtain ⟨fl, ρ2⟩ := p
          cases fl <;> exact h4
        | err z ρ2 => rw [es] at h3; exact h3.elim
        | stuck => rw [es] at h3; exact h3.elim
      · subst eb
        exact hw Dn x (.ref C) dd σ H ρ lr ⟨C, gC, rfl, er2⟩ σ0 H0 O0 t h2 sb
/-- try: .. except A: .. except B: .. -/
theorem s_try {body : List Stmt} {h0 : ExceptHandler} {hs : List ExceptHandler} {pos : Pos} {f : SD} {l : List Hdl} (Wb : BodyCx X G k)
    (hb : ∀ (pn : List (Addr × Obj)) (xe : Value → Shared → Prop) (W : WX), BodyCx (X.tr pn xe) (G.tr oe' W) k → PSsp (X.tr pn xe) (G.tr oe' W) Ol O O' body f) (hh : HdsP X G Ol oe' O' (h0 :: hs) l)
    (s : ∀ i, i ∈ oe → i ∈ oe' := by decide) (hst : X.stack = X.env :: X.outer := by rfl) (hf : X.env.frame = some X.env.locals := by rfl) :
    PSp X G Ol O O' (.Try body (h0 :: hs) [] [] pos) (sTry f l) := by
  obtain ⟨L, hL, hw⟩ := hdsP_ok hh
  refine PS.imp (ps_try_many (tb := fun W => tS X (G.tr oe' W) Ol O O' f) hst hf Wb.tk (fun W pn xe tk po => hb pn xe W ⟨tk, po, Wb.room, Wb.gd⟩) hL) fun Dn σ H h => ?_
  obtain ⟨ρ, lr, h⟩ := h
  refine ⟨ρ, lr, ?_⟩
  have h0 : PostS X G Ol O O' σ H (match f ρ with | .ok p => .ok p | .err x ρ' => tryH x l ρ' | .stuck => .stuck) Dn := h
  cases ef : f ρ with
  | ok p =>
    rw [ef] at h0
    obtain ⟨fl, ρ2⟩ := p
    cases fl <;> exact h0
  | err x ρ2 =>
    rw [ef] at h0
    exact fun cls dd σ' H' t lr' er => hw Dn x cls dd σ' H' ρ2 lr' er σ H O t h0 s
  | stuck => rw [ef] at h0; exact h0.elim
end
end Pl
set_option maxHeartbeats 4000000
namespace Pl
open PySem PySem.Spec L2
/-! ### repr -/
def rReprD (K : PySem.W.Frag) : List V → Hp → VK → Prop := fun vs H Q => ∃ v d, vs = [v] ∧ Dp K H v d ∧ d.showable = true ∧ d.hasDict = false ∧ d.shown.length ≤ sizeLine ∧ d.depth ≤ 128 ∧ Q (.str d.shown) H
theorem call_reprD {X : Cx} (hu : X.A.units + 150 < cLine) (hg : X.A.guards = some []) : CallR X (.builtin "repr") (rReprD X.K) := by
  intro pins s σ H xs us Q I r h
  obtain ⟨v, d, rfl, dp, sh, nd, sz, dp2, q⟩ := h
  obtain ⟨u, rfl, ru⟩ := vals1 r
  obtain ⟨as, rd⟩ := Dp.reads I d v u dp ru
  have onRef : ∀ a, u = .ref a → wpAny (model X.prog X.w) X.A (call (.builtin "repr") [u]) (EP X pins σ Q) X.xe s := by
    rintro a rfl
    exact repr_of_reads' rd sh (PyData.noDict_hsm nd) hg (by omega) (fun _ _ z => z) (fun g t tk kp => ⟨.str d.shown, H, I.kept kp, ⟨_, rfl⟩, q⟩) sz
  cases dp with
  | non =>
    obtain rfl : u = Value.none := ru
    exact PySem.P.repr_of_none ⟨.str _, H, I.tok _, ⟨_, rfl⟩, by simpa only [PyData.shown] using q⟩
  | bl b =>
    obtain rfl : u = Value.bool b := ru
    exact PySem.P.repr_of_bool ⟨.str _, H, I.tok _, ⟨_, rfl⟩, by simpa only [PyData.shown] using q⟩
  | int i =>
    obtain ⟨t, rfl⟩ := ru
    exact PySem.P.repr_of_int (by simpa [PyData.showable] using sh) ⟨.str _, H, I.tok _, ⟨_, rfl⟩, by simpa only [PyData.shown] using q⟩
  | str z =>
    obtain ⟨t, rfl⟩ := ru
    exact PySem.P.repr_of_str ⟨.str _, H, I.tok _, ⟨_, rfl⟩, by simpa only [PyData.shown] using q⟩ (by simpa only [PyData.shown] using sz)
  | lst a b => exact onRef _ ru
  | tup a b => exact onRef _ ru
mutual
theorem flat_nd : ∀ d : D, flat d = true → (toPy d).hasDict = false
  | .non, _ => by simp only [toPy, PyData.hasDict]
  | .bl _, _ => by simp only [toPy, PyData.hasDict]
  | .int _, _ => by simp only [toPy, PyData.hasDict]
  | .str _, _ => by simp only [toPy, PyData.hasDict]
  | .tup ds, h => by
    simp only [toPy, PyData.hasDict]
    exact flat_ndA ds h
  | .lst ds, h => by
    simp only [toPy, PyData.hasDict]
    exact flat_ndA ds h
  | .fl ds, h => by
    simp only [toPy, PyData.hasDict]
    exact flat_ndA ds h
  | .dct _, h => by cases h
  | .ty _, h => by cases h
theorem flat_ndA : ∀ ds : List D, flatAll ds = true → PyData.hasDictAll (toPyAll ds) = false
  | [], _ => by simp only [toPyAll, PyData.hasDictAll]
  | d :: ds, h => by
    have h' : (flat d && flatAll ds) = true := h
    rw [Bool.and_eq_true] at h'
    simp only [toPyAll, PyData.hasDictAll, flat_nd d h'.1, flat_ndA ds h'.2, Bool.or_self]
end
def reprOk (d : D) : Bool := flat d && ((toPy d).showable && (decide ((toPy d).shown.length ≤ sizeLine) && decide ((toPy d).depth ≤ 128)))
def gRepr : List D → Option D
  | [d] => if reprOk d then some (.str (toPy d).shown) else none
  | _ => none
theorem v_repr {K : PySem.W.Frag} : VN K (rReprD K) gRepr := by
  intro Av H vs ds d' Q dom r h fin
  unfold gRepr at h
  split at h
  · rename_i d
    split at h
    · rename_i ok
      cases h
      unfold reprOk at ok
      simp only [Bool.and_eq_true, decide_eq_true_eq] at ok
      obtain ⟨o1, o2, o3, o4⟩ := ok
      obtain ⟨v, rfl, q⟩ := r.one
      exact ⟨v, toPy d, rfl, q.dp o1, o2, flat_nd d o1, o3, o4, fin _ _ (Same.refl H) (.str _)⟩
    · cases h
  · cases h
/-! ### dicts that are read -/
def kD : Key → D
  | .inl i => .int i
  | .inr z => .str z
/-- entries written as constants -/
inductive DCn (X : Cx) (pos : Pos) : List (Option Expr) → List Expr → List (Key × V) → List (Key × D) → Prop
  | nil : DCn X pos [] [] [] []
  | cons {k v : Expr} {ks : List (Option Expr)} {vs : List Expr} {key : Key} {w : V} {d : D} {kvs : List (Key × V)} {kds : List (Key × D)} (hk : PE X k (tC (kV key))) (hv : PE X v (tC w)) (hr : ∀ Av H, Rep X.K Av H w d) (r : DCn X pos ks vs kvs kds) :
      DCn X pos (some k :: ks) (v :: vs) ((key, w) :: kvs) ((key, d) :: kds)
def dGet (kds : List (Key × D)) (k : Key) : Option D := (kds.find? fun e => decide (e.1 = k)).map (·.2)
def gGet : D → D → D → Option D
  | .dct kds, .str z, d => some ((dGet kds (.inr z)).getD d)
  | .dct kds, .int i, d => some ((dGet kds (.inl i)).getD d)
  | _, _, _ => none
theorem RepKV.get {K : PySem.W.Frag} {Av : Addr → Prop} {H : Hp} {kvs : List (Key × V)} {kds : List (Key × D)} (k : Key) (r : RepKV K Av H kvs kds) : (∃ v d, valV kvs k = some v ∧ dGet kds k = some d ∧ Rep K Av H v d) ∨ (valV kvs k = none ∧ dGet kds k = none) := by
  induction kds generalizing kvs with
  | nil => cases r; exact .inr ⟨rfl, rfl⟩
  | cons e es ih =>
    cases r with
    | cons h t =>
      rename_i key v d vs
      by_cases ek : key = k
      · refine .inl ⟨v, d, valV_pos ek, ?_, h⟩
        simp [dGet, List.find?_cons, ek]
      · rw [valV_neg (p := (key, v)) ek, show dGet ((key, d) :: es) k = dGet es k by simp [dGet, List.find?_cons, ek]]
        exact ih t
section
variable {X : Cx} {io oe : List Nat} {G : Pc io oe} {O : List Nat} {σ : L2.St} {H : Hp}
theorem DCn.pps {pos : Pos} {keys : List (Option Expr)} {values : List Expr} {kvs : List (Key × V)} {kds : List (Key × D)} (h : DCn X pos keys values kvs kds) :
    ∃ trs, PPs X pos keys values trs ∧ (∀ σ H Q, Q (kvs.map fun kv => (kV kv.1, kv.2)) H → tPairs trs σ H Q) ∧ (∀ Av H, RepKV X.K Av H kvs kds) ∧ keys.all (·.isSome) = true ∧ keys.length = values.length ∧ keys.length = kvs.length := by
  induction h with
  | nil => exact ⟨[], pps_nil, fun σ H Q q => q, fun _ _ => .nil, rfl, rfl, rfl⟩
  | cons hk hv hr r ih =>
    obtain ⟨trs, p, f, g, a, b, c⟩ := ih
    exact ⟨_, pps_cons hk hv p, fun σ H Q q => f σ H _ q, fun Av H => .cons (hr Av H) (g Av H), a, by simp [b], by simp [c]⟩
theorem p_disp {pos : Pos} {keys : List (Option Expr)} {values : List Expr} {kvs : List (Key × V)} {kds : List (Key × D)} (h : DCn X pos keys values kvs kds) (hm : mergeK [] kvs = kvs) (h0 : keys ≠ []) (h15 : keys.length ≤ 15) :
    PEp X G O (.Dict keys values pos) (f0 (.dct kds)) := by
  obtain ⟨trs, p, f, g, a, b, c⟩ := h.pps
  refine PE.imp (pe_disp p a b h0 h15) fun σ H Q q => ?_
  obtain ⟨ρ, lr, q⟩ := q
  intro p0 hp
  refine f _ _ _ ⟨upd_same, kvs, rfl, by omega, ?_⟩
  rw [hm]
  have e : upd (upd H p0 (.dK [])) p0 (.dK kvs) = upd H p0 (.dK kvs) := by
    funext z
    by_cases hz : z = p0
    · rw [hz, upd_same, upd_same]
    · rw [upd_ne hz, upd_ne hz, upd_ne hz]
  rw [e]
  refine q _ _ (Chg.of_same (same_new hp)) (lr.same (same_new hp)) (.dct upd_same (fun z => ?_) (g _ _))
  exact lr.avdom _ z hp
/-- d.get(k, x) -/
def fGet (f k e : ED) : ED := fun ρ => (f ρ).bind fun p => match p.1 with | .dct kds => (k p.2).bind fun q => (e q.2).bind fun r => put (gGet (.dct kds) q.1 r.1) r.2 | _ => .stuck
theorem p_get {o a b : Expr} {apos cpos : Pos} {f k e : ED} (hu : X.A.units + 1 < cLine) (ho : PEp X G O o f) (ha : PEp X G O a k) (hb : PEp X G O b e) (m : M2 X o "get" apos a b cpos) :
    PEp X G O (.Call (.Attribute o "get" apos) [a, b] [] cpos) (fGet f k e) := by
  refine PE.imp (pe_dget2 hu ho ha hb m) fun σ H Q h => ?_
  obtain ⟨ρ, lr, h⟩ := h
  refine ⟨ρ, lr, ?_⟩
  have h0 : Post X G O σ H (RE X G O σ) ((f ρ).bind fun p => match p.1 with | .dct kds => (k p.2).bind fun q => (e q.2).bind fun r => put (gGet (.dct kds) q.1 r.1) r.2 | _ => .stuck) Q := h
  cases ef : f ρ with
  | err x ρ1 => rw [ef] at h0; exact h0
  | stuck => rw [ef] at h0; exact h0.elim
  | ok p =>
    obtain ⟨d, ρ1⟩ := p
    rw [ef] at h0
    intro v H1 c1 r1 q1
    cases d with
    | dct kds =>
      have h1 : Post X G O σ H1 (RE X G O σ) ((k ρ1).bind fun q => (e q.2).bind fun r => put (gGet (.dct kds) q.1 r.1) r.2) Q := Post.from h0 c1
      have inv : ∃ a kvs, v = .ref a ∧ H1 a = some (.dK kvs) ∧ ¬ Avd G.A O σ a ∧ RepKV X.K (Avd G.A O σ) H1 kvs kds := by
        cases q1 with
        | dct h n r => exact ⟨_, _, rfl, h, n, r⟩
      obtain ⟨a, kvs, rfl, ea, na, rk⟩ := inv
      refine ⟨a, rfl, .inl ⟨kvs, .inl ea⟩, ρ1, r1, h1.step fun y ρ2 w H2 r2 q2 c2 h2 => ⟨ρ2, r2, h2.step fun z ρ3 w3 H3 r3 q3 c3 h3 => ?_⟩⟩
      have k23 := r2.keep c3
      have k12 := r1.keep c2
      have ea2 := (k12.dct a kvs ea na)
      have ea3 := (k23.dct a kvs ea2.1 ea2.2)
      have rk3 := (rk.keep k12).keep k23
      have qy := q2.keep k23
      obtain ⟨d', e', fin⟩ := put_done h3 r3
      cases y with
      | str z0 =>
        have ew : w = .str z0 := by cases qy; rfl
        subst ew
        cases e'
        rcases rk3.get (.inr z0) with ⟨v1, d1, e1, e2, e3⟩ | ⟨e1, e2⟩
        · refine ⟨some v1, .inl ⟨kvs, .inr z0, .inl ea3.1, rfl, e1.symm⟩, ?_⟩
          have := fin v1 H3 (Same.refl H3)
          rw [e2] at this
          exact this e3
        · refine ⟨none, .inl ⟨kvs, .inr z0, .inl ea3.1, rfl, e1.symm⟩, ?_⟩
          have := fin w3 H3 (Same.refl H3)
          rw [e2] at this
          exact this q3
      | int i =>
        have ew : w = .int i := by cases qy; rfl
        subst ew
        cases e'
        rcases rk3.get (.inl i) with ⟨v1, d1, e1, e2, e3⟩ | ⟨e1, e2⟩
        · refine ⟨some v1, .inl ⟨kvs, .inl i, .inl ea3.1, rfl, e1.symm⟩, ?_⟩
          have := fin v1 H3 (Same.refl H3)
          rw [e2] at this
          exact this e3
        · refine ⟨none, .inl ⟨kvs, .inl i, .inl ea3.1, rfl, e1.symm⟩, ?_⟩
          have := fin w3 H3 (Same.refl H3)
          rw [e2] at this
          exact this q3
      | _ => cases e'
    | _ => exact h0.elim
/-! ### a def that gives a new list -/
abbrev FN := List D → Option (List D)
def spN (K : PySem.W.Frag) (n : Nat) (F : FN) : Sp := fun vs H Q _ => vs.length = n ∧ ∃ A ds es, LocR K A [] H (sl vs) (ds.map some) ∧ F ds = some es ∧ ∀ p xs H1, Same H H1 → H1 p = none → RepAll K A H1 xs es → Q (.ref p) (upd H1 p (.lst xs))
/-- one statement, then return [..] -/
def runN (n : Nat) (f : SD) (k : AD) : FN := fun ds => match f (ds.map some ++ List.replicate (n - ds.length) none) with
  | .ok (.nx, ρ) => (match k ρ with | .ok q => some q.1 | _ => none)
  | _ => none
end
theorem own_no {σ : L2.St} {a : Addr} : ¬ Own [] σ a := fun ⟨_, h, _⟩ => (nomatch h)
theorem same_of_nil {σ : L2.St} {H H' : Hp} (c : Chg (Own [] σ) H H') : Same H H' := fun b o h => c b o h own_no
section
variable {P : Program} {w : World} {K : PySem.W.Frag} {mg : Str → Option Value} {base : Heap} {x qual : Str} {params : Arguments} {scope : Scope} {f : Addr} {fd : FuncData}
theorem def_okN {N ps : List Str} {k n : Nat} {st : Stmt} {e : Expr} {pos : Pos} {b : SD} {kk : AD} (F : FunD K x qual params [st, .Return (some e) pos] scope [] [] f fd) (S : FnScope N ps scope) (hn : n = ps.length)
    (hb : ∀ (cdv : Value) (A : Around) (outer : List Env) (s : Shared) (H : Hp) (E : XK) (G : Pc [] []), BodyCx (cxD P w K mg base N qual scope f cdv A outer s H E) G k → PSp (cxD P w K mg base N qual scope f cdv A outer s H E) G [] [] [] st b ∧ PNp (cxD P w K mg base N qual scope f cdv A outer s H E) G [] e kk) :
    FnG P w K mg base (L2.CX P w) (k + 1) f fd ps (spN K n (runN N.length b kk)) := by
  refine fng_of F S (fun vs H Q E h => h.1.trans hn) fun cdv A outer s H vs Q E hr gd h => ?_
  obtain ⟨hvs, A', ds, es, lr, hF, hQ⟩ := h
  obtain ⟨h1, h2⟩ := hb cdv A outer s H E ⟨A', fun cls d _ H => E cls d H⟩ ⟨takes_of rfl rfl rfl rfl, passes_of rfl, hr, gd⟩
  refine ⟨_, pss_cons h1 (pss_one (ps_ret h2)), ?_⟩
  obtain ⟨lr', eo⟩ := LocR.start (N := N) lr
  refine ⟨_, lr', ?_⟩
  unfold runN at hF
  generalize b (ds.map some ++ List.replicate (N.length - ds.length) none) = o at hF ⊢
  cases o with
  | err y ρ => cases hF
  | stuck => cases hF
  | ok p =>
    obtain ⟨fl, ρ⟩ := p
    cases fl with
    | nx =>
      intro σ' H' t r
      refine ⟨ρ, r, ?_⟩
      have hF' : (match kk ρ with | .ok q => some q.1 | _ => none) = some es := hF
      cases ek : kk ρ with
      | err y ρ2 => rw [ek] at hF'; cases hF'
      | stuck => rw [ek] at hF'; cases hF'
      | ok q =>
        rw [ek] at hF'
        cases hF'
        intro p xs H1 c1 r1 hp q1
        refine hQ p xs H1 ((same_of_nil t.chg).trans (same_of_nil c1)) hp (q1.keep (Keep.less fun a z => (avd_nil a).mpr z))
    | bk => cases hF
    | ct => cases hF
    | rt d => cases hF
end
def nCall (F : FN) (f : AD) : AD := fun ρ => (f ρ).bind fun p => match F p.1 with
  | some es => .ok (es, p.2)
  | none => .stuck
section
variable {X : Cx} {io oe : List Nat} {G : Pc io oe} {O : List Nat} {σ : L2.St} {H : Hp} {x : Str} {p pos : Pos} {e : Expr} {es : List Expr} {k n : Nat} {fa : Addr} {fd : FuncData} {ps : List Str} {F : FN} {f : AD}
theorem n_call (W : BodyCx X G k) (FO : FnG X.prog X.w X.K X.mg X.base (L2.CX X.prog X.w) k fa fd ps (spN X.K n F)) (hm : X.mg x = some (.ref fa)) (hk : PySem.W.keepIn X.K (.ref fa) = true) (hb : Binds X.K fd ps []) (ha : PAp X G O (e :: es) f) (hn : (e :: es).length = n := by rfl)
    (hg : Gl X x := by rfl) (hdb : (x == ("__debug__" : Str)) = false := by decide) (he : starEach (e :: es) X.env = (false, eval e X.env) :: starEach es X.env := by rfl) (hpl : (backTo pos (starEach es X.env)).any (·.1) = false := by rfl) :
    PNp X G O (.Call (.Name x p) (e :: es) [] pos) (nCall F f) := by
  refine PE.imp (pe_callG FO W.room W.gd hg hm hk hb (fun σ => passAt W.tk σ) ha.pa hdb he hpl) fun σ H Q h => ?_
  obtain ⟨ρ, lr, h⟩ := h
  refine ⟨ρ, lr, ?_⟩
  have hlen' := ha.len ρ
  have h0 : PostN X G O σ H ((f ρ).bind fun p => match F p.1 with | some es => .ok (es, p.2) | none => .stuck) Q := h
  generalize f ρ = o at h0 hlen' ⊢
  cases o with
  | err y ρ1 => exact h0
  | stuck => exact h0
  | ok p0 =>
    intro vs H1 c1 r1 q1
    have hl := hlen' p0 rfl
    have h1 : PostN X G O σ H (match F p0.1 with | some es => .ok (es, p0.2) | none => .stuck) Q := h0
    cases eF : F p0.1 with
    | none => rw [eF] at h1; exact h1.elim
    | some zs =>
      rw [eF] at h1
      refine ⟨by rw [RepAll.length q1, hl]; exact hn, Avd G.A O σ, p0.1, zs, RepAll.slots q1 r1.avdom, eF, fun q xs H2 sm hq rq => ?_⟩
      exact h1 q xs H2 (c1.trans (Chg.of_same sm)) (r1.same sm) hq rq
end
end Pl
set_option maxHeartbeats 4000000
namespace Pl
open PySem PySem.Spec L2
/-! ### a op b op' c -/
def fCh (g g' : D → D → Option D) (f k e : ED) : ED := fun ρ => (f ρ).bind fun p => (k p.2).bind fun q => match g p.1 q.1 with
  | some (.bl true) => (e q.2).bind fun r => put (g' q.1 r.1) r.2
  | some (.bl false) => .ok (.bl false, q.2)
  | _ => .stuck
section
variable {X : Cx} {io oe : List Nat} {G : Pc io oe} {O Ol : List Nat} {σ : L2.St} {H : Hp}
theorem ch_read {r r' : R2} {g g' : D → D → Option D} {f k e : ED} {Q : VK} (hv : V2 X.K r g) (hv' : V2 X.K r' g') (h : tG X G O (RE X G O) (fCh g g' f k e) σ H Q) :
    tChain r r' (tG X G O (RE X G O) f) (tG X G O (RE X G O) k) (tG X G O (RE X G O) e) σ H Q := by
  obtain ⟨ρ, lr, h⟩ := h
  have h0 : Post X G O σ H (RE X G O σ) ((f ρ).bind fun p => (k p.2).bind fun q => match g p.1 q.1 with | some (.bl true) => (e q.2).bind fun r => put (g' q.1 r.1) r.2 | some (.bl false) => .ok (.bl false, q.2) | _ => .stuck) Q := h
  refine ⟨ρ, lr, h0.step fun d ρ1 v H1 r1 q1 c1 h1 => ⟨ρ1, r1, h1.step fun d2 ρ2 v2 H2 r2 q2 c2 h2 => ?_⟩⟩
  have q1' := q1.keep (r1.keep c2)
  dsimp only at h2
  split at h2
  · rename_i eg
    refine hv _ _ _ _ _ _ _ _ r2.avdom q1' q2 eg fun z H3 sm rz => ⟨true, rz.bl_inv, ?_⟩
    rw [if_pos rfl]
    have r3 := r2.same sm
    refine ⟨ρ2, r3, (Post.from h2 (Chg.of_same sm)).step fun d3 ρ3 v3 H4 r4 q4 c4 h4 => ?_⟩
    obtain ⟨d', e', fin⟩ := put_done h4 r4
    exact hv' _ _ _ _ _ _ _ _ r4.avdom ((q2.same sm).keep (r3.keep c4)) q4 e' fin
  · rename_i eg
    refine hv _ _ _ _ _ _ _ _ r2.avdom q1' q2 eg fun z H3 sm rz => ⟨false, rz.bl_inv, ?_⟩
    rw [if_neg Bool.false_ne_true]
    exact h2 _ _ (Chg.of_same sm) (r2.same sm) (.bl _)
  · exact h2.elim
theorem p_ch {op op' : CmpOp} {r r' : R2} {g g' : D → D → Option D} {a b c : Expr} {pos : Pos} {f k e : ED} (ho : OpR X (compareOp op) r) (hv : V2 X.K r g) (ho' : OpR X (compareOp op') r') (hv' : V2 X.K r' g') (ha : PEp X G O a f) (hb : PEp X G O b k) (hc : PEp X G O c e)
    (hm : lastMarks [op, op'] [b, c] = false := by with_unfolding_all rfl) : PEp X G O (.Compare a [op, op'] [b, c] pos) (fCh g g' f k e) := PE.imp (pe_chain ho ho' ha hb hc hm) fun σ H Q h => ch_read hv hv' h
theorem tV_read {f : ED} {Q : Bool → Hp → Prop} (h : tG X G O RT (tV f) σ H Q) : tG X G O (RE X G O) f σ H fun z H' => ∃ c, z = .bl c ∧ Q c H' := by
  obtain ⟨ρ, lr, h⟩ := h
  exact ⟨ρ, lr, h.step fun d ρ1 v H1 r1 q1 c1 h1 => tV_done h1 r1 q1⟩
theorem q_ch {op op' : CmpOp} {r r' : R2} {g g' : D → D → Option D} {a b c : Expr} {pos : Pos} {f k e : ED} (ho : OpR X (compareOp op) r) (hv : V2 X.K r g) (ho' : OpR X (compareOp op') r') (hv' : V2 X.K r' g') (ha : PEp X G O a f) (hb : PEp X G O b k) (hc : PEp X G O c e)
    (hm : lastMarks [op, op'] [b, c] = false := by with_unfolding_all rfl) : PTp X G O (.Compare a [op, op'] [b, c] pos) (tV (fCh g g' f k e)) := PT.imp (pt_chain ho ho' ha hb hc hm) fun σ H Q h => ch_read hv hv' (tV_read h)
/-- a built-in type by name -/
theorem p_bty {x : Str} {T : String} {pos : Pos} (hm : X.mg x = none) (hb : bootBuiltins x = some (.type T)) (hg : Gl X x := by rfl) (hn : x ≠ "__name__" := by decide) (hd : (x == ("__debug__" : Str)) = false := by decide) : PEp X G O (.Name x pos) (f0 (.ty T)) :=
  p_const (pe_bltn (v := .ty T) hg hm hb rfl hn hd) fun _ _ => .ty T
/-! ### methods of an owned list -/
theorem a_app (i : Nat) {x : Str} {px apos pos : Pos} {b : Expr} {f : ED} (hb : PEp X G O b f) (hO : i ∈ O := by decide) (hN : X.N[i]? = some x := by rfl) (hv : Vis X.env.scope x := by first | exact Or.inl rfl | exact Or.inr (Or.inl rfl) | exact Or.inr (Or.inr rfl))
    (hd : (x == ("__debug__" : Str)) = false := by decide) (hcd : (x == ("__classdict__" : Str)) = false := by decide)
    (hbase : attributeBase (.Name x px) "append" X.env (eval (.Name x px) X.env) = eval (.Name x px) X.env := by rfl)
    (hfew : ((backTo pos (starEach [b] X.env)).all (fun x => !x.1) && (backToKw pos (keywordEach [] X.env)).all (fun x => x.1.isSome) && decide (([b] : List Expr).length + ([] : List Keyword).length + (if ([] : List Keyword).isEmpty then 0 else 1) < 30)) = true := by rfl)
    (hl : (apos.endLine == pos.line) = true := by rfl) (hs : starEach [b] X.env = (false, eval b X.env) :: starEach [] X.env := by rfl) (hp : (backTo pos (starEach [] X.env)).any (·.1) = false := by rfl) :
    PEp X G O (.Call (.Attribute (.Name x px) "append" apos) [b] [] pos) (oApp i f) :=
  o_app i hb hO hN hv hd hcd (pe_bm PySem.F.plainAttrs_list PySem.F.slot_list_append PySem.F.type_list_append mt_append (pe_var (i := i) hN hv hd hcd) (pa_cons hb pa_nil hs) hbase hfew hl hs hp)
theorem a_ext (i : Nat) {x : Str} {px apos pos : Pos} {b : Expr} {f : ED} (hb : PEp X G O b f) (hO : i ∈ O := by decide) (hN : X.N[i]? = some x := by rfl) (hv : Vis X.env.scope x := by first | exact Or.inl rfl | exact Or.inr (Or.inl rfl) | exact Or.inr (Or.inr rfl))
    (hd : (x == ("__debug__" : Str)) = false := by decide) (hcd : (x == ("__classdict__" : Str)) = false := by decide)
    (hbase : attributeBase (.Name x px) "extend" X.env (eval (.Name x px) X.env) = eval (.Name x px) X.env := by rfl)
    (hfew : ((backTo pos (starEach [b] X.env)).all (fun x => !x.1) && (backToKw pos (keywordEach [] X.env)).all (fun x => x.1.isSome) && decide (([b] : List Expr).length + ([] : List Keyword).length + (if ([] : List Keyword).isEmpty then 0 else 1) < 30)) = true := by rfl)
    (hl : (apos.endLine == pos.line) = true := by rfl) (hs : starEach [b] X.env = (false, eval b X.env) :: starEach [] X.env := by rfl) (hp : (backTo pos (starEach [] X.env)).any (·.1) = false := by rfl) :
    PEp X G O (.Call (.Attribute (.Name x px) "extend" apos) [b] [] pos) (oExt i f) :=
  o_ext i hO (pe_bm PySem.F.plainAttrs_list PySem.F.slot_list_extend PySem.F.type_list_extend mt_extend (pe_var (i := i) hN hv hd hcd) (pa_cons hb pa_nil hs) hbase hfew hl hs hp)
end
/-! ### facts of calls by one name -/
theorem Room.u1 {X : Cx} {io oe : List Nat} {G : Pc io oe} {k : Nat} (W : BodyCx X G k) : X.A.units + 1 < cLine := by have := W.room.units; omega
theorem Room.u64 {X : Cx} {io oe : List Nat} {G : Pc io oe} {k : Nat} (W : BodyCx X G k) : X.A.units + 64 < cLine := W.room.units
theorem Room.u150 {X : Cx} {io oe : List Nat} {G : Pc io oe} {k : Nat} (W : BodyCx X G k) : X.A.units + 150 < cLine := by have := W.room.un; omega
end Pl
set_option maxHeartbeats 4000000
namespace Pl
open PySem PySem.Spec L2 PyProof.Rows
/-! ### the module's facts -/
def hookZ (n : Nat) (fa : List He.Fa) (fn : List He.DefD) (ex : PySem.W.Frag → Bool) : PySem.W.Hook where
  α := He.AlD × Bool
  obs := fun s => (He.obsD fa fn (He.frG s.heap.get? (He.asD s.heap.get? n)), ex (He.frG s.heap.get? (He.asD s.heap.get? n)))
  val := fun _ => (He.valD fn, true)
  says := fun _ h => ∃ K : PySem.W.Frag, K.In h ∧ He.SaysD fa fn K ∧ ex K = true
  of := fun _ _ e => ⟨_, He.frG_in, congrArg Prod.fst e, congrArg Prod.snd e⟩
  keeps := fun _ _ _ ⟨K, hK, c⟩ k => ⟨K, PySem.W.Frag.In.keeps hK k, c⟩
def obsZ (n : Nat) (fa : List He.Fa) (fn : List He.DefD) (ex : PySem.W.Frag → Bool) (g : Addr → Option Obj) : He.AlD × Bool := (He.obsD fa fn (He.frG g (He.asD g n)), ex (He.frG g (He.asD g n)))
theorem obsZ_eq {n : Nat} {fa : List He.Fa} {fn : List He.DefD} {ex : PySem.W.Frag → Bool} {g : Addr → Option Obj} {s : Shared} (h : ∀ a, g a = s.heap.get? a) : obsZ n fa fn ex g = (hookZ n fa fn ex).obs s := by
  have e : g = s.heap.get? := funext h
  rw [e] <;> rfl
section
variable {K : PySem.W.Frag} {h : Heap} {mg : Str → Option Value} {x : Str}
theorem kd_int {i : Int} (X : K.In h) (G : h.Ns mainGlobals mg) (c : (He.Fa.int x i).ok K = true) : Kd K mg x (.int i) := by
  obtain ⟨t, e⟩ := He.int_ok X G c
  exact ⟨_, .int i, e, ⟨t, rfl⟩, fun _ _ => .int i⟩
theorem kd_str {z : Str} (X : K.In h) (G : h.Ns mainGlobals mg) (c : (He.Fa.str x z).ok K = true) : Kd K mg x (.str z) := by
  obtain ⟨t, e⟩ := He.str_ok X G c
  exact ⟨_, .str z, e, ⟨t, rfl⟩, fun _ _ => .str z⟩
inductive DvR : List He.Dv → List D → Prop
  | nil : DvR [] []
  | int {i : Int} {r : List He.Dv} {s : List D} : DvR r s → DvR (.int i :: r) (.int i :: s)
  | str {z : Str} {r : List He.Dv} {s : List D} : DvR r s → DvR (.str z :: r) (.str z :: s)
theorem DvR.rep {vs : List He.Dv} {ds : List D} (r : DvR vs ds) (Av : Addr → Prop) (H : Hp) : RepAll K Av H (vs.map (He.Dv.v K)) ds := by
  induction r with
  | nil => exact .nil
  | int _ ih => exact .cons (.int _) ih
  | str _ ih => exact .cons (.str _) ih
theorem kd_tup {vs : List He.Dv} {ds : List D} (X : K.In h) (G : h.Ns mainGlobals mg) (c : (He.Fa.glo x).ok K = true) (t : He.tupB K x vs = true) (r : DvR vs ds) : Kd K mg x (.tup ds) :=
  ⟨_, .ref (He.ga K x), He.glo_ok X G c, rfl, fun Av H => .tup (He.tupB_ok t H) (r.rep Av H)⟩
theorem exck_of (X : K.In h) (G : h.Ns mainGlobals mg) (c : (He.Fa.glo x).ok K = true) (d : (He.Fa.exc x).ok K = true) : ExcK K mg x := by
  obtain ⟨h1, h2, h3, h4⟩ := He.exc_ok d
  exact ⟨_, He.glo_ok X G c, h1, h2, h3, h4⟩
/-- which classes a clause takes -/
def ckT (t : List (Str × Bool)) : Str → Option Bool := fun y => t.lookup y
theorem ck_nil {c : Value} : Ck K mg c (ckT []) := fun _ _ _ _ h => by cases h
theorem ck_cons {c : Value} {C : Addr} {b : Bool} {t : List (Str × Bool)} (g : mg x = some (.ref C)) (m : PySem.W.exmOne K (.ref C) c = some b) (r : Ck K mg c (ckT t)) : Ck K mg c (ckT ((x, b) :: t)) := by
  intro y D b2 gy hy
  have hy' : (match y == x with | true => some b | false => t.lookup y) = some b2 := hy
  cases e : y == x with
  | true =>
    rw [e] at hy'
    cases hy'
    have ey := eq_of_beq e
    subst ey
    rw [g] at gy
    cases gy
    exact m
  | false =>
    rw [e] at hy'
    exact r y D b2 gy hy'
end
section
variable {P : Program} {w : World} {K : PySem.W.Frag} {mg : Str → Option Value} {base : Heap} {C : CXT} {k n : Nat} {f : Addr} {fd : FuncData} {ps : List Str} {io : List Nat}
theorem fng_stuck (hn : n = ps.length) : FnG P w K mg base C k f fd ps (spP K mg io n fun _ => .stuck) :=
  ⟨fun vs H Q E h => h.1.trans hn, fun A ou s H ar us vs Q E _ _ _ _ _ h => by
    obtain ⟨_, A', ds, _, z⟩ := h
    exact z.elim⟩
end
section
variable {P : Program} {w : World} {K : PySem.W.Frag} {mg : Str → Option Value} {base : Heap} {x qual : Str} {params : Arguments} {body : List Stmt} {scope : Scope} {f : Addr} {fd : FuncData}
theorem dk {N ps : List Str} {k n m : Nat} {io : List Nat} {b : SD} (F : FunD K x qual params body scope [] [] f fd) (S : FnScope N ps scope) (hn : n = ps.length) (hm : m = N.length)
    (hb : ∀ (cdv : Value) (A : Around) (outer : List Env) (s : Shared) (H : Hp) (E : XK) (G : Pc io io), BodyCx (cxD P w K mg base N qual scope f cdv A outer s H E) G k → PSsp (cxD P w K mg base N qual scope f cdv A outer s H E) G [] io io body b) :
    FnG P w K mg base (L2.CX P w) (k + 1) f fd ps (spP K mg io n (runB m io b)) := by
  subst hm
  exact def_ok F S hn hb
theorem dkN {N ps : List Str} {k n m : Nat} {st : Stmt} {e : Expr} {pos : Pos} {b : SD} {kk : AD} (F : FunD K x qual params [st, .Return (some e) pos] scope [] [] f fd) (S : FnScope N ps scope) (hn : n = ps.length) (hm : m = N.length)
    (hb : ∀ (cdv : Value) (A : Around) (outer : List Env) (s : Shared) (H : Hp) (E : XK) (G : Pc [] []), BodyCx (cxD P w K mg base N qual scope f cdv A outer s H E) G k → PSp (cxD P w K mg base N qual scope f cdv A outer s H E) G [] [] [] st b ∧ PNp (cxD P w K mg base N qual scope f cdv A outer s H E) G [] e kk) :
    FnG P w K mg base (L2.CX P w) (k + 1) f fd ps (spN K n (runN m b kk)) := by
  subst hm
  exact def_okN F S hn hb
end
/-! ### two texts compared -/
def gEqS : D → D → Option D
  | .str a, .str b => some (.bl (a == b))
  | _, _ => none
theorem v_eqS {K : PySem.W.Frag} : V2 K rEq gEqS := by
  intro Av H v w d e d' Q dom r q h fin
  cases d with
  | str a =>
    cases e with
    | str b =>
      have e1 := r.str_inv
      have e2 := q.str_inv
      subst e1 e2
      cases h
      have z := fin (.bl (a == b)) H (Same.refl H) (.bl _)
      have y : decide (V.str a = V.str b) = (a == b) := by
        rw [Bool.eq_iff_iff]
        simp
      exact ⟨rfl, by rw [y]; exact z⟩
    | _ => cases h
  | _ => cases h
end Pl
set_option maxHeartbeats 4000000
namespace Pl
open PySem PySem.Spec
/-! ### evaluation -/
theorem f0_e {d : D} {ρ : Lc} : f0 d ρ = .ok (d, ρ) := rfl
theorem put_so {d : D} {ρ : Lc} : put (some d) ρ = .ok (d, ρ) := rfl
def K1 (g : D → Option D) (o : Out (D × Lc)) : Out (D × Lc) := match o with
  | .ok (a, ρ) => put (g a) ρ
  | .err x ρ => .err x ρ
  | .stuck => .stuck
theorem K1_ok (g : D → Option D) {a : D} {ρ : Lc} : K1 g (.ok (a, ρ)) = put (g a) ρ := rfl
theorem K1_er (g : D → Option D) {x : Exc} {ρ : Lc} : K1 g (.err x ρ) = .err x ρ := rfl
theorem f1_e {g : D → Option D} {f : ED} {ρ : Lc} : f1 g f ρ = K1 g (f ρ) := by
  unfold f1 K1
  cases f ρ <;> rfl
def K2b (g : D → D → Option D) (d : D) (o : Out (D × Lc)) : Out (D × Lc) := match o with
  | .ok (a, ρ) => put (g d a) ρ
  | .err x ρ => .err x ρ
  | .stuck => .stuck
theorem K2b_ok (g : D → D → Option D) (d : D) {a : D} {ρ : Lc} : K2b g d (.ok (a, ρ)) = put (g d a) ρ := rfl
theorem K2b_er (g : D → D → Option D) (d : D) {x : Exc} {ρ : Lc} : K2b g d (.err x ρ) = .err x ρ := rfl
def K2 (g : D → D → Option D) (k : ED) (o : Out (D × Lc)) : Out (D × Lc) := match o with
  | .ok (a, ρ) => K2b g a (k ρ)
  | .err x ρ => .err x ρ
  | .stuck => .stuck
theorem K2_ok (g : D → D → Option D) (k : ED) {a : D} {ρ : Lc} : K2 g k (.ok (a, ρ)) = K2b g a (k ρ) := rfl
theorem K2_er (g : D → D → Option D) (k : ED) {x : Exc} {ρ : Lc} : K2 g k (.err x ρ) = .err x ρ := rfl
theorem f2_e {g : D → D → Option D} {f k : ED} {ρ : Lc} : f2 g f k ρ = K2 g k (f ρ) := by
  unfold f2 K2
  cases f ρ with
  | ok p => show (k p.2).bind _ = K2b g p.1 (k p.2); unfold K2b; cases k p.2 <;> rfl
  | err x ρ => rfl
  | stuck => rfl
def KN (g : List D → Option D) (o : Out (List D × Lc)) : Out (D × Lc) := match o with
  | .ok (a, ρ) => put (g a) ρ
  | .err x ρ => .err x ρ
  | .stuck => .stuck
theorem KN_ok (g : List D → Option D) {a : List D} {ρ : Lc} : KN g (.ok (a, ρ)) = put (g a) ρ := rfl
theorem KN_er (g : List D → Option D) {x : Exc} {ρ : Lc} : KN g (.err x ρ) = .err x ρ := rfl
theorem fN_e {g : List D → Option D} {f : AD} {ρ : Lc} : fN g f ρ = KN g (f ρ) := by
  unfold fN KN
  cases f ρ <;> rfl
theorem aNil_e {ρ : Lc} : aNil ρ = .ok ([], ρ) := rfl
def KAb (d : D) (o : Out (List D × Lc)) : Out (List D × Lc) := match o with
  | .ok (a, ρ) => .ok (d :: a, ρ)
  | .err x ρ => .err x ρ
  | .stuck => .stuck
theorem KAb_ok (d : D) {a : List D} {ρ : Lc} : KAb d (.ok (a, ρ)) = .ok (d :: a, ρ) := rfl
theorem KAb_er (d : D) {x : Exc} {ρ : Lc} : KAb d (.err x ρ) = .err x ρ := rfl
def KA (k : AD) (o : Out (D × Lc)) : Out (List D × Lc) := match o with
  | .ok (a, ρ) => KAb a (k ρ)
  | .err x ρ => .err x ρ
  | .stuck => .stuck
theorem KA_ok (k : AD) {a : D} {ρ : Lc} : KA k (.ok (a, ρ)) = KAb a (k ρ) := rfl
theorem KA_er (k : AD) {x : Exc} {ρ : Lc} : KA k (.err x ρ) = .err x ρ := rfl
theorem aCons_e {f : ED} {k : AD} {ρ : Lc} : aCons f k ρ = KA k (f ρ) := by
  unfold aCons KA
  cases f ρ with
  | ok p => show (k p.2).bind _ = KAb p.1 (k p.2); unfold KAb; cases k p.2 <;> rfl
  | err x ρ => rfl
  | stuck => rfl
def fvO (ρ : Lc) (o : Option (Option D)) : Out (D × Lc) := match o with
  | some (some d) => .ok (d, ρ)
  | _ => .stuck
theorem fvO_so {ρ : Lc} {d : D} : fvO ρ (some (some d)) = .ok (d, ρ) := rfl
theorem fv_e {i : Nat} {ρ : Lc} : fv i ρ = fvO ρ ρ[i]? := rfl
def KT (o : Out (D × Lc)) : Out (Bool × Lc) := match o with
  | .ok (.bl b, ρ) => .ok (b, ρ)
  | .err x ρ => .err x ρ
  | _ => .stuck
theorem KT_ok {b : Bool} {ρ : Lc} : KT (.ok (.bl b, ρ)) = .ok (b, ρ) := rfl
theorem KT_er {x : Exc} {ρ : Lc} : KT (.err x ρ) = .err x ρ := rfl
theorem tV_e {f : ED} {ρ : Lc} : tV f ρ = KT (f ρ) := by
  unfold tV KT
  cases f ρ with
  | ok p => obtain ⟨d, ρ1⟩ := p; cases d <;> rfl
  | err x ρ => rfl
  | stuck => rfl
def KNt  (o : Out (Bool × Lc)) : Out (Bool × Lc) := match o with
  | .ok (a, ρ) => .ok (!a, ρ)
  | .err x ρ => .err x ρ
  | .stuck => .stuck
theorem KNt_ok  {a : Bool} {ρ : Lc} : KNt  (.ok (a, ρ)) = .ok (!a, ρ) := rfl
theorem KNt_er  {x : Exc} {ρ : Lc} : KNt  (.err x ρ) = .err x ρ := rfl
theorem tNt_e {f : TD} {ρ : Lc} : tNt f ρ = KNt  (f ρ) := by
  unfold tNt KNt
  cases f ρ <;> rfl
def KAn (k : TD) (o : Out (Bool × Lc)) : Out (Bool × Lc) := match o with
  | .ok (a, ρ) => if a = true then k ρ else .ok (false, ρ)
  | .err x ρ => .err x ρ
  | .stuck => .stuck
theorem KAn_ok (k : TD) {a : Bool} {ρ : Lc} : KAn k (.ok (a, ρ)) = if a = true then k ρ else .ok (false, ρ) := rfl
theorem KAn_er (k : TD) {x : Exc} {ρ : Lc} : KAn k (.err x ρ) = .err x ρ := rfl
theorem tAn_e {f k : TD} {ρ : Lc} : tAn f k ρ = KAn k (f ρ) := by
  unfold tAn KAn
  cases f ρ <;> rfl
def KOr (k : TD) (o : Out (Bool × Lc)) : Out (Bool × Lc) := match o with
  | .ok (a, ρ) => if a = true then .ok (true, ρ) else k ρ
  | .err x ρ => .err x ρ
  | .stuck => .stuck
theorem KOr_ok (k : TD) {a : Bool} {ρ : Lc} : KOr k (.ok (a, ρ)) = if a = true then .ok (true, ρ) else k ρ := rfl
theorem KOr_er (k : TD) {x : Exc} {ρ : Lc} : KOr k (.err x ρ) = .err x ρ := rfl
theorem tOr'_e {f k : TD} {ρ : Lc} : tOr' f k ρ = KOr k (f ρ) := by
  unfold tOr' KOr
  cases f ρ <;> rfl
def KIe (f k : ED) (o : Out (Bool × Lc)) : Out (D × Lc) := match o with
  | .ok (a, ρ) => if a = true then f ρ else k ρ
  | .err x ρ => .err x ρ
  | .stuck => .stuck
theorem KIe_ok (f k : ED) {a : Bool} {ρ : Lc} : KIe f k (.ok (a, ρ)) = if a = true then f ρ else k ρ := rfl
theorem KIe_er (f k : ED) {x : Exc} {ρ : Lc} : KIe f k (.err x ρ) = .err x ρ := rfl
theorem fIf_e {c : TD} {f k : ED} {ρ : Lc} : fIf c f k ρ = KIe f k (c ρ) := by
  unfold fIf KIe
  cases c ρ <;> rfl
theorem tYs_e {ρ : Lc} : tYs ρ = .ok (true, ρ) := rfl
def KEa (k : ED) (o : Out (D × Lc)) : Out (D × Lc) := match o with
  | .ok (.bl b, ρ) => if b = true then k ρ else .ok (.bl false, ρ)
  | .err x ρ => .err x ρ
  | _ => .stuck
theorem KEa_ok {k : ED} {b : Bool} {ρ : Lc} : KEa k (.ok (.bl b, ρ)) = if b = true then k ρ else .ok (.bl false, ρ) := rfl
theorem eAn_e {f k : ED} {ρ : Lc} : eAn f k ρ = KEa k (f ρ) := by
  unfold eAn KEa
  cases f ρ with
  | ok p => obtain ⟨d, ρ1⟩ := p; cases d with
    | bl b => cases b <;> rfl
    | _ => rfl
  | err x ρ => rfl
  | stuck => rfl
def KEo (k : ED) (o : Out (D × Lc)) : Out (D × Lc) := match o with
  | .ok (.bl b, ρ) => if b = true then .ok (.bl true, ρ) else k ρ
  | .err x ρ => .err x ρ
  | _ => .stuck
theorem KEo_ok {k : ED} {b : Bool} {ρ : Lc} : KEo k (.ok (.bl b, ρ)) = if b = true then .ok (.bl true, ρ) else k ρ := rfl
theorem eOr_e {f k : ED} {ρ : Lc} : eOr f k ρ = KEo k (f ρ) := by
  unfold eOr KEo
  cases f ρ with
  | ok p => obtain ⟨d, ρ1⟩ := p; cases d with
    | bl b => cases b <;> rfl
    | _ => rfl
  | err x ρ => rfl
  | stuck => rfl
def KCh3 (g' : D → D → Option D) (e : D) (o : Out (D × Lc)) : Out (D × Lc) := match o with
  | .ok (a, ρ) => put (g' e a) ρ
  | .err x ρ => .err x ρ
  | .stuck => .stuck
theorem KCh3_ok (g' : D → D → Option D) (e : D) {a : D} {ρ : Lc} : KCh3 g' e (.ok (a, ρ)) = put (g' e a) ρ := rfl
theorem KCh3_er (g' : D → D → Option D) (e : D) {x : Exc} {ρ : Lc} : KCh3 g' e (.err x ρ) = .err x ρ := rfl
def KCh2 (g g' : D → D → Option D) (d : D) (e : ED) (o : Out (D × Lc)) : Out (D × Lc) := match o with
  | .ok (a, ρ) => (match g d a with
    | some (.bl true) => KCh3 g' a (e ρ)
    | some (.bl false) => .ok (.bl false, ρ)
    | _ => .stuck)
  | .err x ρ => .err x ρ
  | .stuck => .stuck
def KChO (g' : D → D → Option D) (a : D) (e : ED) (ρ : Lc) (o : Option D) : Out (D × Lc) := match o with
  | some (.bl true) => KCh3 g' a (e ρ)
  | some (.bl false) => .ok (.bl false, ρ)
  | _ => .stuck
theorem KCh2_ok {g g' : D → D → Option D} {d a : D} {e : ED} {ρ : Lc} : KCh2 g g' d e (.ok (a, ρ)) = KChO g' a e ρ (g d a) := rfl
theorem KChO_so {g' : D → D → Option D} {a : D} {e : ED} {ρ : Lc} {b : Bool} : KChO g' a e ρ (some (.bl b)) = if b = true then KCh3 g' a (e ρ) else .ok (.bl false, ρ) := by cases b <;> rfl
def KCh1 (g g' : D → D → Option D) (k e : ED) (o : Out (D × Lc)) : Out (D × Lc) := match o with
  | .ok (a, ρ) => KCh2 g g' a e (k ρ)
  | .err x ρ => .err x ρ
  | .stuck => .stuck
theorem KCh1_ok (g g' : D → D → Option D) (k e : ED) {a : D} {ρ : Lc} : KCh1 g g' k e (.ok (a, ρ)) = KCh2 g g' a e (k ρ) := rfl
theorem KCh1_er (g g' : D → D → Option D) (k e : ED) {x : Exc} {ρ : Lc} : KCh1 g g' k e (.err x ρ) = .err x ρ := rfl
theorem fCh_e {g g' : D → D → Option D} {f k e : ED} {ρ : Lc} : fCh g g' f k e ρ = KCh1 g g' k e (f ρ) := by
  unfold fCh KCh1
  cases f ρ with
  | ok p =>
    obtain ⟨d, ρ1⟩ := p
    show (k ρ1).bind _ = KCh2 g g' d e (k ρ1)
    unfold KCh2
    cases k ρ1 with
    | ok q =>
      obtain ⟨d2, ρ2⟩ := q
      show (match g d d2 with | some (.bl true) => (e ρ2).bind fun r => put (g' d2 r.1) r.2 | some (.bl false) => .ok (.bl false, ρ2) | _ => .stuck) = (match g d d2 with | some (.bl true) => KCh3 g' d2 (e ρ2) | some (.bl false) => .ok (.bl false, ρ2) | _ => .stuck)
      have hh : ((e ρ2).bind fun r => put (g' d2 r.1) r.2) = KCh3 g' d2 (e ρ2) := by unfold KCh3; cases e ρ2 <;> rfl
      rw [hh]
    | err x ρ => rfl
    | stuck => rfl
  | err x ρ => rfl
  | stuck => rfl
theorem sNx_e {ρ : Lc} : sNx ρ = .ok (.nx, ρ) := rfl
theorem sBk_e {ρ : Lc} : sBk ρ = .ok (.bk, ρ) := rfl
theorem sCt_e {ρ : Lc} : sCt ρ = .ok (.ct, ρ) := rfl
theorem sRetN_e {ρ : Lc} : sRetN ρ = .ok (.rt .non, ρ) := rfl
theorem sRaise_e {x : Str} {ρ : Lc} : sRaise x ρ = .err ⟨x, []⟩ ρ := rfl
def KS (k : SD) (o : Out (Flow' × Lc)) : Out (Flow' × Lc) := match o with
  | .ok (.nx, ρ) => k ρ
  | o => o
theorem KS_nx {k : SD} {ρ : Lc} : KS k (.ok (.nx, ρ)) = k ρ := rfl
theorem KS_rt {k : SD} {d : D} {ρ : Lc} : KS k (.ok (.rt d, ρ)) = .ok (.rt d, ρ) := rfl
theorem KS_bk {k : SD} {ρ : Lc} : KS k (.ok (.bk, ρ)) = .ok (.bk, ρ) := rfl
theorem KS_ct {k : SD} {ρ : Lc} : KS k (.ok (.ct, ρ)) = .ok (.ct, ρ) := rfl
theorem KS_er {k : SD} {x : Exc} {ρ : Lc} : KS k (.err x ρ) = .err x ρ := rfl
theorem sSeq_e {f k : SD} {ρ : Lc} : sSeq f k ρ = KS k (f ρ) := by
  unfold sSeq KS
  cases f ρ with
  | ok p => obtain ⟨fl, ρ1⟩ := p; cases fl <;> rfl
  | err x ρ => rfl
  | stuck => rfl
def KIf (f k : SD) (o : Out (Bool × Lc)) : Out (Flow' × Lc) := match o with
  | .ok (a, ρ) => if a = true then f ρ else k ρ
  | .err x ρ => .err x ρ
  | .stuck => .stuck
theorem KIf_ok (f k : SD) {a : Bool} {ρ : Lc} : KIf f k (.ok (a, ρ)) = if a = true then f ρ else k ρ := rfl
theorem KIf_er (f k : SD) {x : Exc} {ρ : Lc} : KIf f k (.err x ρ) = .err x ρ := rfl
theorem sIf_e {c : TD} {f k : SD} {ρ : Lc} : sIf c f k ρ = KIf f k (c ρ) := by
  unfold sIf KIf
  cases c ρ <;> rfl
def KG (g : GD) (o : Out (D × Lc)) : Out (Flow' × Lc) := match o with
  | .ok (a, ρ) => nxt (g a ρ)
  | .err x ρ => .err x ρ
  | .stuck => .stuck
theorem KG_ok (g : GD) {a : D} {ρ : Lc} : KG g (.ok (a, ρ)) = nxt (g a ρ) := rfl
theorem KG_er (g : GD) {x : Exc} {ρ : Lc} : KG g (.err x ρ) = .err x ρ := rfl
theorem sAsg_e {f : ED} {g : GD} {ρ : Lc} : sAsg f g ρ = KG g (f ρ) := by
  unfold sAsg KG
  cases f ρ <;> rfl
theorem nxt_so {ρ : Lc} : nxt (some ρ) = .ok (.nx, ρ) := rfl
theorem gNm_e {i : Nat} {d : D} {ρ : Lc} : gNm i d ρ = some (ρ.set i (some d)) := rfl
def KR  (o : Out (D × Lc)) : Out (Flow' × Lc) := match o with
  | .ok (a, ρ) => .ok (.rt a, ρ)
  | .err x ρ => .err x ρ
  | .stuck => .stuck
theorem KR_ok  {a : D} {ρ : Lc} : KR  (.ok (a, ρ)) = .ok (.rt a, ρ) := rfl
theorem KR_er  {x : Exc} {ρ : Lc} : KR  (.err x ρ) = .err x ρ := rfl
theorem sRet_e {f : ED} {ρ : Lc} : sRet f ρ = KR  (f ρ) := by
  unfold sRet KR
  cases f ρ <;> rfl
def KD  (o : Out (D × Lc)) : Out (Flow' × Lc) := match o with
  | .ok (a, ρ) => .ok (.nx, ρ)
  | .err x ρ => .err x ρ
  | .stuck => .stuck
theorem KD_ok  {a : D} {ρ : Lc} : KD  (.ok (a, ρ)) = .ok (.nx, ρ) := rfl
theorem KD_er  {x : Exc} {ρ : Lc} : KD  (.err x ρ) = .err x ρ := rfl
theorem sDrop_e {f : ED} {ρ : Lc} : sDrop f ρ = KD  (f ρ) := by
  unfold sDrop KD
  cases f ρ <;> rfl
def KP (i j : Nat) (o : Out (List D × Lc)) : Out (Flow' × Lc) := match o with
  | .ok ([d, e], ρ) => .ok (.nx, (ρ.set i (some d)).set j (some e))
  | .err x ρ => .err x ρ
  | _ => .stuck
theorem KP_ok {i j : Nat} {d e : D} {ρ : Lc} : KP i j (.ok ([d, e], ρ)) = .ok (.nx, (ρ.set i (some d)).set j (some e)) := rfl
theorem sPar_e {i j : Nat} {f : AD} {ρ : Lc} : sPar i j f ρ = KP i j (f ρ) := by
  unfold sPar KP
  cases f ρ with
  | ok p =>
    obtain ⟨ds, ρ1⟩ := p
    match ds with
    | [] => rfl
    | [_] => rfl
    | [_, _] => rfl
    | _ :: _ :: _ :: _ => rfl
  | err x ρ => rfl
  | stuck => rfl
def KF (g : GD) (b : SD) (o : Out (List D × Lc)) : Out (Flow' × Lc) := match o with
  | .ok (a, ρ) => forD g b a ρ
  | .err x ρ => .err x ρ
  | .stuck => .stuck
theorem KF_ok (g : GD) (b : SD) {a : List D} {ρ : Lc} : KF g b (.ok (a, ρ)) = forD g b a ρ := rfl
theorem KF_er (g : GD) (b : SD) {x : Exc} {ρ : Lc} : KF g b (.err x ρ) = .err x ρ := rfl
theorem sFor_e {f : AD} {g : GD} {b : SD} {ρ : Lc} : sFor f g b ρ = KF g b (f ρ) := by
  unfold sFor KF
  cases f ρ <;> rfl
def KOw (i : Nat) (o : Out (List D × Lc)) : Out (Flow' × Lc) := match o with
  | .ok (a, ρ) => if i < ρ.length then .ok (.nx, ρ.set i (some (.lst a))) else .stuck
  | .err x ρ => .err x ρ
  | .stuck => .stuck
theorem KOw_ok (i : Nat) {a : List D} {ρ : Lc} : KOw i (.ok (a, ρ)) = if i < ρ.length then .ok (.nx, ρ.set i (some (.lst a))) else .stuck := rfl
theorem KOw_er (i : Nat) {x : Exc} {ρ : Lc} : KOw i (.err x ρ) = .err x ρ := rfl
theorem sOwn_e {i : Nat} {f : AD} {ρ : Lc} : sOwn i f ρ = KOw i (f ρ) := by
  unfold sOwn KOw
  cases f ρ <;> rfl
def KnL  (o : Out (List D × Lc)) : Out (List D × Lc) := match o with
  | .ok (a, ρ) => if lnOk a.length then .ok (a, ρ) else .stuck
  | .err x ρ => .err x ρ
  | .stuck => .stuck
theorem KnL_ok  {a : List D} {ρ : Lc} : KnL  (.ok (a, ρ)) = if lnOk a.length then .ok (a, ρ) else .stuck := rfl
theorem KnL_er  {x : Exc} {ρ : Lc} : KnL  (.err x ρ) = .err x ρ := rfl
theorem nLst_e {f : AD} {ρ : Lc} : nLst f ρ = KnL  (f ρ) := by
  unfold nLst KnL
  cases f ρ <;> rfl
def lsO (o : Option (Option D)) : Option (List D) := match o with
  | some (some (.lst ds)) => some ds
  | _ => none
theorem lsO_so {ds : List D} : lsO (some (some (.lst ds))) = some ds := rfl
theorem lstAt_e {ρ : Lc} {i : Nat} : lstAt ρ i = lsO ρ[i]? := rfl
def KoI (i : Nat) (o : Out (D × Lc)) : Out (D × Lc) := match o with
  | .ok (.int j, ρ) => (match lstAt ρ i with | some ds => put (L2.atI ds j) ρ | none => .stuck)
  | .err x ρ => .err x ρ
  | _ => .stuck
def KoIo (ρ : Lc) (j : Int) (o : Option (List D)) : Out (D × Lc) := match o with
  | some ds => put (L2.atI ds j) ρ
  | none => .stuck
theorem KoIo_so {ρ : Lc} {j : Int} {ds : List D} : KoIo ρ j (some ds) = put (L2.atI ds j) ρ := rfl
theorem KoI_ok {i : Nat} {j : Int} {ρ : Lc} : KoI i (.ok (.int j, ρ)) = KoIo ρ j (lstAt ρ i) := rfl
theorem oIx_e {i : Nat} {f : ED} {ρ : Lc} : oIx i f ρ = KoI i (f ρ) := by
  unfold oIx KoI
  cases f ρ with
  | ok p =>
    obtain ⟨d, ρ1⟩ := p
    show (match lstAt ρ1 i, d with | some ds, .int j => put (L2.atI ds j) ρ1 | _, _ => .stuck) = _
    cases hz : lstAt ρ1 i <;> cases d <;> first | rfl | simp only [hz]
  | err x ρ => rfl
  | stuck => rfl
def KoL (ρ : Lc) (o : Option (List D)) : Out (D × Lc) := match o with
  | some ds => .ok (.int ds.length, ρ)
  | none => .stuck
theorem KoL_so {ρ : Lc} {ds : List D} : KoL ρ (some ds) = .ok (.int ds.length, ρ) := rfl
theorem oLen_e {i : Nat} {ρ : Lc} : oLen i ρ = KoL ρ (lstAt ρ i) := rfl
def KoAo (i : Nat) (a : D) (ρ : Lc) (o : Option (List D)) : Out (D × Lc) := match o with
  | some ds => if lnOk (ds.length + 1) then .ok (.non, ρ.set i (some (.lst (ds ++ [a])))) else .stuck
  | none => .stuck
theorem KoAo_so {i : Nat} {a : D} {ρ : Lc} {ds : List D} : KoAo i a ρ (some ds) = if lnOk (ds.length + 1) then .ok (.non, ρ.set i (some (.lst (ds ++ [a])))) else .stuck := rfl
def KoA (i : Nat) (o : Out (D × Lc)) : Out (D × Lc) := match o with
  | .ok (a, ρ) => KoAo i a ρ (lstAt ρ i)
  | .err x ρ => .err x ρ
  | .stuck => .stuck
theorem KoA_ok (i : Nat) {a : D} {ρ : Lc} : KoA i (.ok (a, ρ)) = KoAo i a ρ (lstAt ρ i) := rfl
theorem KoA_er (i : Nat) {x : Exc} {ρ : Lc} : KoA i (.err x ρ) = .err x ρ := rfl
theorem oApp_e {i : Nat} {f : ED} {ρ : Lc} : oApp i f ρ = KoA i (f ρ) := by
  unfold oApp KoA KoAo
  cases f ρ <;> rfl
def KoE (i : Nat) (o : Out (D × Lc)) : Out (D × Lc) := match o with
  | .ok (.lst es, ρ) => (match lstAt ρ i with | some ds => if lnOk (ds.length + es.length) then .ok (.non, ρ.set i (some (.lst (ds ++ es)))) else .stuck | none => .stuck)
  | .err x ρ => .err x ρ
  | _ => .stuck
def KoEo (i : Nat) (es : List D) (ρ : Lc) (o : Option (List D)) : Out (D × Lc) := match o with
  | some ds => if lnOk (ds.length + es.length) then .ok (.non, ρ.set i (some (.lst (ds ++ es)))) else .stuck
  | none => .stuck
theorem KoEo_so {i : Nat} {es : List D} {ρ : Lc} {ds : List D} : KoEo i es ρ (some ds) = if lnOk (ds.length + es.length) then .ok (.non, ρ.set i (some (.lst (ds ++ es)))) else .stuck := rfl
theorem KoE_ok {i : Nat} {es : List D} {ρ : Lc} : KoE i (.ok (.lst es, ρ)) = KoEo i es ρ (lstAt ρ i) := rfl
theorem oExt_e {i : Nat} {f : ED} {ρ : Lc} : oExt i f ρ = KoE i (f ρ) := by
  unfold oExt KoE
  cases f ρ with
  | ok p =>
    obtain ⟨d, ρ1⟩ := p
    show (match lstAt ρ1 i, d with | some ds, .lst es => if lnOk (ds.length + es.length) then Out.ok (D.non, ρ1.set i (some (.lst (ds ++ es)))) else .stuck | _, _ => .stuck) = _
    cases hz : lstAt ρ1 i <;> cases d <;> first | rfl | simp only [hz]
  | err x ρ => rfl
  | stuck => rfl
def KsI2 (i : Nat) (d : D) (o : Out (D × Lc)) : Out (Flow' × Lc) := match o with
  | .ok (.int j, ρ) => (match lstAt ρ i with | some ds => (match L2.ixN ds.length j with | some m => .ok (.nx, ρ.set i (some (.lst (ds.set m d)))) | none => .stuck) | none => .stuck)
  | .err x ρ => .err x ρ
  | _ => .stuck
def KsIo2 (i : Nat) (d : D) (ρ : Lc) (ds : List D) (o : Option Nat) : Out (Flow' × Lc) := match o with
  | some m => .ok (.nx, ρ.set i (some (.lst (ds.set m d))))
  | none => .stuck
theorem KsIo2_so {i m : Nat} {d : D} {ρ : Lc} {ds : List D} : KsIo2 i d ρ ds (some m) = .ok (.nx, ρ.set i (some (.lst (ds.set m d)))) := rfl
def KsIo (i : Nat) (d : D) (j : Int) (ρ : Lc) (o : Option (List D)) : Out (Flow' × Lc) := match o with
  | some ds => KsIo2 i d ρ ds (L2.ixN ds.length j)
  | none => .stuck
theorem KsIo_so {i : Nat} {d : D} {j : Int} {ρ : Lc} {ds : List D} : KsIo i d j ρ (some ds) = KsIo2 i d ρ ds (L2.ixN ds.length j) := rfl
theorem KsI2_ok {i : Nat} {d : D} {j : Int} {ρ : Lc} : KsI2 i d (.ok (.int j, ρ)) = KsIo i d j ρ (lstAt ρ i) := rfl
def KsI (i : Nat) (k : ED) (o : Out (D × Lc)) : Out (Flow' × Lc) := match o with
  | .ok (a, ρ) => KsI2 i a (k ρ)
  | .err x ρ => .err x ρ
  | .stuck => .stuck
theorem KsI_ok (i : Nat) (k : ED) {a : D} {ρ : Lc} : KsI i k (.ok (a, ρ)) = KsI2 i a (k ρ) := rfl
theorem KsI_er (i : Nat) (k : ED) {x : Exc} {ρ : Lc} : KsI i k (.err x ρ) = .err x ρ := rfl
theorem sSetI_e {i : Nat} {f k : ED} {ρ : Lc} : sSetI i f k ρ = KsI i k (f ρ) := by
  unfold sSetI KsI
  cases f ρ with
  | ok p =>
    obtain ⟨d, ρ1⟩ := p
    show (k ρ1).bind _ = KsI2 i d (k ρ1)
    unfold KsI2
    cases k ρ1 with
    | ok q =>
      obtain ⟨d2, ρ2⟩ := q
      show (match lstAt ρ2 i, d2 with | some ds, .int j => (match L2.ixN ds.length j with | some m => Out.ok (Flow'.nx, ρ2.set i (some (.lst (ds.set m d)))) | none => .stuck) | _, _ => .stuck) = _
      cases hz : lstAt ρ2 i <;> cases d2 <;> first | rfl | simp only [hz]
    | err x ρ => rfl
    | stuck => rfl
  | err x ρ => rfl
  | stuck => rfl
def KC2 (ρ : Lc) (o : Out (D × Lc)) : Out (D × Lc) := match o with
  | .ok (d, _) => .ok (d, ρ)
  | .err x _ => .err x ρ
  | .stuck => .stuck
theorem KC2_ok {ρ : Lc} {d : D} {os : Lc} : KC2 ρ (.ok (d, os)) = .ok (d, ρ) := rfl
theorem KC2_er {ρ : Lc} {x : Exc} {os : Lc} : KC2 ρ (.err x os) = .err x ρ := rfl
def KC (F : FD) (o : Out (List D × Lc)) : Out (D × Lc) := match o with
  | .ok (a, ρ) => KC2 ρ (F a)
  | .err x ρ => .err x ρ
  | .stuck => .stuck
theorem KC_ok (F : FD) {a : List D} {ρ : Lc} : KC F (.ok (a, ρ)) = KC2 ρ (F a) := rfl
theorem KC_er (F : FD) {x : Exc} {ρ : Lc} : KC F (.err x ρ) = .err x ρ := rfl
theorem fCall_e {F : FD} {f : AD} {ρ : Lc} : fCall F f ρ = KC F (f ρ) := by
  unfold fCall KC
  cases f ρ with
  | ok p =>
    obtain ⟨ds, ρ1⟩ := p
    show (match F ds with | .ok q => Out.ok (q.1, ρ1) | .err x _ => .err x ρ1 | .stuck => .stuck) = KC2 ρ1 (F ds)
    unfold KC2
    cases F ds <;> rfl
  | err x ρ => rfl
  | stuck => rfl
def KI2 (i : Nat) (ρ : Lc) (o : Out (D × Lc)) : Out (D × Lc) := match o with
  | .ok (d, [some c']) => .ok (d, ρ.set i (some c'))
  | .err x [some c'] => .err x (ρ.set i (some c'))
  | _ => .stuck
theorem KI2_ok {i : Nat} {ρ : Lc} {d c : D} : KI2 i ρ (.ok (d, [some c])) = .ok (d, ρ.set i (some c)) := rfl
def KI (i : Nat) (F : FD) (o : Out (List D × Lc)) : Out (D × Lc) := match o with
  | .ok (ds, ρ) => (match ρ[i]? with | some (some c) => KI2 i ρ (F (c :: ds)) | _ => .stuck)
  | .err x ρ => .err x ρ
  | .stuck => .stuck
def KIo (i : Nat) (F : FD) (ds : List D) (ρ : Lc) (o : Option (Option D)) : Out (D × Lc) := match o with
  | some (some c) => KI2 i ρ (F (c :: ds))
  | _ => .stuck
theorem KIo_so {i : Nat} {F : FD} {ds : List D} {ρ : Lc} {c : D} : KIo i F ds ρ (some (some c)) = KI2 i ρ (F (c :: ds)) := rfl
theorem KI_ok {i : Nat} {F : FD} {ds : List D} {ρ : Lc} : KI i F (.ok (ds, ρ)) = KIo i F ds ρ ρ[i]? := rfl
theorem fCallIo_e {i : Nat} {F : FD} {f : AD} {ρ : Lc} : fCallIo i F f ρ = KI i F (f ρ) := by
  unfold fCallIo KI
  cases f ρ with
  | ok p =>
    obtain ⟨ds, ρ1⟩ := p
    show (match ρ1[i]? with | some (some c) => (match F (c :: ds) with | .ok (d, [some c']) => Out.ok (d, ρ1.set i (some c')) | .err x [some c'] => .err x (ρ1.set i (some c')) | _ => .stuck) | _ => .stuck) = (match ρ1[i]? with | some (some c) => KI2 i ρ1 (F (c :: ds)) | _ => .stuck)
    rcases ρ1[i]? with _ | (_ | c)
    · rfl
    · rfl
    · show (match F (c :: ds) with | .ok (d, [some c']) => Out.ok (d, ρ1.set i (some c')) | .err x [some c'] => .err x (ρ1.set i (some c')) | _ => .stuck) = KI2 i ρ1 (F (c :: ds))
      unfold KI2
      rcases F (c :: ds) with ⟨d, os⟩ | ⟨x, os⟩ | _
      · rcases os with _ | ⟨_ | z, _ | ⟨y, os⟩⟩ <;> rfl
      · rcases os with _ | ⟨_ | z, _ | ⟨y, os⟩⟩ <;> rfl
      · rfl
  | err x ρ => rfl
  | stuck => rfl
def KnC2 (ρ : Lc) (o : Option (List D)) : Out (List D × Lc) := match o with
  | some es => .ok (es, ρ)
  | none => .stuck
theorem KnC2_ok {ρ : Lc} {es : List D} : KnC2 ρ (some es) = .ok (es, ρ) := rfl
def KnC (F : FN) (o : Out (List D × Lc)) : Out (List D × Lc) := match o with
  | .ok (a, ρ) => KnC2 ρ (F a)
  | .err x ρ => .err x ρ
  | .stuck => .stuck
theorem KnC_ok (F : FN) {a : List D} {ρ : Lc} : KnC F (.ok (a, ρ)) = KnC2 ρ (F a) := rfl
theorem KnC_er (F : FN) {x : Exc} {ρ : Lc} : KnC F (.err x ρ) = .err x ρ := rfl
theorem nCall_e {F : FN} {f : AD} {ρ : Lc} : nCall F f ρ = KnC F (f ρ) := by
  unfold nCall KnC
  cases f ρ with
  | ok p =>
    obtain ⟨ds, ρ1⟩ := p
    show (match F ds with | some es => Out.ok (es, ρ1) | none => .stuck) = KnC2 ρ1 (F ds)
    unfold KnC2
    cases F ds <;> rfl
  | err x ρ => rfl
  | stuck => rfl
def KsQ (o : Out (D × Lc)) : Out (List D × Lc) := match o with
  | .ok (.tup ds, ρ) => .ok (ds, ρ)
  | .ok (.lst ds, ρ) => .ok (ds, ρ)
  | .ok (.fl ds, ρ) => .ok (ds, ρ)
  | .err x ρ => .err x ρ
  | _ => .stuck
theorem KsQ_t {ds : List D} {ρ : Lc} : KsQ (.ok (.tup ds, ρ)) = .ok (ds, ρ) := rfl
theorem KsQ_l {ds : List D} {ρ : Lc} : KsQ (.ok (.lst ds, ρ)) = .ok (ds, ρ) := rfl
theorem KsQ_f {ds : List D} {ρ : Lc} : KsQ (.ok (.fl ds, ρ)) = .ok (ds, ρ) := rfl
theorem iSeq_e {f : ED} {ρ : Lc} : iSeq f ρ = KsQ (f ρ) := by
  unfold iSeq KsQ
  cases f ρ with
  | ok p => obtain ⟨d, ρ1⟩ := p; cases d <;> rfl
  | err x ρ => rfl
  | stuck => rfl
def KsE (o : Out (D × Lc)) : Out (List D × Lc) := match o with
  | .ok (.tup ds, ρ) => .ok (enD 0 ds, ρ)
  | .ok (.lst ds, ρ) => .ok (enD 0 ds, ρ)
  | .ok (.fl ds, ρ) => .ok (enD 0 ds, ρ)
  | .err x ρ => .err x ρ
  | _ => .stuck
theorem KsE_t {ds : List D} {ρ : Lc} : KsE (.ok (.tup ds, ρ)) = .ok (enD 0 ds, ρ) := rfl
theorem KsE_l {ds : List D} {ρ : Lc} : KsE (.ok (.lst ds, ρ)) = .ok (enD 0 ds, ρ) := rfl
theorem iEn_e {f : ED} {ρ : Lc} : iEn f ρ = KsE (f ρ) := by
  unfold iEn KsE
  cases f ρ with
  | ok p => obtain ⟨d, ρ1⟩ := p; cases d <;> rfl
  | err x ρ => rfl
  | stuck => rfl
def KR1 (o : Out (List D × Lc)) : Out (List D × Lc) := match o with
  | .ok ([.int j], ρ) => if rngOk j then .ok (rngD 0 j, ρ) else .stuck
  | .err x ρ => .err x ρ
  | _ => .stuck
theorem KR1_ok {j : Int} {ρ : Lc} : KR1 (.ok ([.int j], ρ)) = if rngOk j then .ok (rngD 0 j, ρ) else .stuck := rfl
theorem iRn1_e {f : AD} {ρ : Lc} : iRn1 f ρ = KR1 (f ρ) := by
  unfold iRn1 KR1
  cases f ρ with
  | ok p =>
    obtain ⟨ds, ρ1⟩ := p
    match ds with
    | [] => rfl
    | [d] => cases d <;> rfl
    | _ :: _ :: _ => rename_i a b c; cases a <;> rfl
  | err x ρ => rfl
  | stuck => rfl
def KL  (o : Out (List D × Lc)) : Out (D × Lc) := match o with
  | .ok (a, ρ) => .ok (.lst a, ρ)
  | .err x ρ => .err x ρ
  | .stuck => .stuck
theorem KL_ok  {a : List D} {ρ : Lc} : KL  (.ok (a, ρ)) = .ok (.lst a, ρ) := rfl
theorem KL_er  {x : Exc} {ρ : Lc} : KL  (.err x ρ) = .err x ρ := rfl
theorem lstE_e {f : AD} {ρ : Lc} : lstE f ρ = KL  (f ρ) := by
  unfold lstE KL
  cases f ρ <;> rfl
def Kc1 (g : GD) (t : TD) (e : ED) (vs : List Nat) (o : Out (List D × Lc)) : Out (List D × Lc) := match o with
  | .ok (a, ρ) => fitL ρ vs (loopC g t e vs a (wipeL ρ vs))
  | .err x ρ => .err x ρ
  | .stuck => .stuck
theorem Kc1_ok (g : GD) (t : TD) (e : ED) (vs : List Nat) {a : List D} {ρ : Lc} : Kc1 g t e vs (.ok (a, ρ)) = fitL ρ vs (loopC g t e vs a (wipeL ρ vs)) := rfl
theorem Kc1_er (g : GD) (t : TD) (e : ED) (vs : List Nat) {x : Exc} {ρ : Lc} : Kc1 g t e vs (.err x ρ) = .err x ρ := rfl
theorem compN_e {f : AD} {g : GD} {t : TD} {e : ED} {vs : List Nat} {ρ : Lc} : compN f g t e vs ρ = Kc1 g t e vs (f ρ) := by
  unfold compN Kc1
  cases f ρ <;> rfl
def Kc2 (g : GD) (t : TD) (f1 : AD) (g1 : GD) (t1 : TD) (e : ED) (vs vs1 : List Nat) (o : Out (List D × Lc)) : Out (List D × Lc) := match o with
  | .ok (a, ρ) => fitL ρ vs (loopC2 g t f1 g1 t1 e vs vs1 a (wipeL ρ vs))
  | .err x ρ => .err x ρ
  | .stuck => .stuck
theorem Kc2_ok (g : GD) (t : TD) (f1 : AD) (g1 : GD) (t1 : TD) (e : ED) (vs vs1 : List Nat) {a : List D} {ρ : Lc} : Kc2 g t f1 g1 t1 e vs vs1 (.ok (a, ρ)) = fitL ρ vs (loopC2 g t f1 g1 t1 e vs vs1 a (wipeL ρ vs)) := rfl
theorem Kc2_er (g : GD) (t : TD) (f1 : AD) (g1 : GD) (t1 : TD) (e : ED) (vs vs1 : List Nat) {x : Exc} {ρ : Lc} : Kc2 g t f1 g1 t1 e vs vs1 (.err x ρ) = .err x ρ := rfl
theorem compN2_e {f : AD} {g : GD} {t : TD} {f1 : AD} {g1 : GD} {t1 : TD} {e : ED} {vs vs1 : List Nat} {ρ : Lc} : compN2 f g t f1 g1 t1 e vs vs1 ρ = Kc2 g t f1 g1 t1 e vs vs1 (f ρ) := by
  unfold compN2 Kc2
  cases f ρ <;> rfl
theorem fitL_so {ρ ρ1 : Lc} {vs : List Nat} {ds : List D} : fitL ρ vs (some (ds, ρ1)) = if lnOk ds.length then .ok (ds, resL ρ vs ρ1) else .stuck := rfl
def KoP (o : Out (D × Lc)) : Out (Option Int × Lc) := match o with
  | .ok (.int i, ρ) => .ok (some i, ρ)
  | .err x ρ => .err x ρ
  | _ => .stuck
theorem KoP_ok {i : Int} {ρ : Lc} : KoP (.ok (.int i, ρ)) = .ok (some i, ρ) := rfl
theorem oPt_e {f : ED} {ρ : Lc} : oPt f ρ = KoP (f ρ) := by
  unfold oPt KoP
  cases f ρ with
  | ok p => obtain ⟨d, ρ1⟩ := p; cases d <;> rfl
  | err x ρ => rfl
  | stuck => rfl
theorem oNo_e {ρ : Lc} : oNo ρ = .ok (none, ρ) := rfl
def Ksl3 (d : D) (l : Option Int) (o : Out (Option Int × Lc)) : Out (D × Lc) := match o with
  | .ok (a, ρ) => put (gSl d l a) ρ
  | .err x ρ => .err x ρ
  | .stuck => .stuck
theorem Ksl3_ok (d : D) (l : Option Int) {a : Option Int} {ρ : Lc} : Ksl3 d l (.ok (a, ρ)) = put (gSl d l a) ρ := rfl
theorem Ksl3_er (d : D) (l : Option Int) {x : Exc} {ρ : Lc} : Ksl3 d l (.err x ρ) = .err x ρ := rfl
def Ksl2 (d : D) (h : OD) (o : Out (Option Int × Lc)) : Out (D × Lc) := match o with
  | .ok (a, ρ) => Ksl3 d a (h ρ)
  | .err x ρ => .err x ρ
  | .stuck => .stuck
theorem Ksl2_ok (d : D) (h : OD) {a : Option Int} {ρ : Lc} : Ksl2 d h (.ok (a, ρ)) = Ksl3 d a (h ρ) := rfl
theorem Ksl2_er (d : D) (h : OD) {x : Exc} {ρ : Lc} : Ksl2 d h (.err x ρ) = .err x ρ := rfl
def Ksl1 (l h : OD) (o : Out (D × Lc)) : Out (D × Lc) := match o with
  | .ok (a, ρ) => Ksl2 a h (l ρ)
  | .err x ρ => .err x ρ
  | .stuck => .stuck
theorem Ksl1_ok (l h : OD) {a : D} {ρ : Lc} : Ksl1 l h (.ok (a, ρ)) = Ksl2 a h (l ρ) := rfl
theorem Ksl1_er (l h : OD) {x : Exc} {ρ : Lc} : Ksl1 l h (.err x ρ) = .err x ρ := rfl
theorem fSl_e {f : ED} {l h : OD} {ρ : Lc} : fSl f l h ρ = Ksl1 l h (f ρ) := by
  unfold fSl Ksl1
  cases f ρ with
  | ok p =>
    obtain ⟨d, ρ1⟩ := p
    show (l ρ1).bind _ = Ksl2 d h (l ρ1)
    unfold Ksl2
    cases l ρ1 with
    | ok q =>
      obtain ⟨d2, ρ2⟩ := q
      show (h ρ2).bind _ = Ksl3 d d2 (h ρ2)
      unfold Ksl3
      cases h ρ2 <;> rfl
    | err x ρ => rfl
    | stuck => rfl
  | err x ρ => rfl
  | stuck => rfl
def KTy (hs : List Hdl) (o : Out (Flow' × Lc)) : Out (Flow' × Lc) := match o with
  | .ok p => .ok p
  | .err x ρ => tryH x hs ρ
  | .stuck => .stuck
theorem KTy_ok {hs : List Hdl} {p : Flow' × Lc} : KTy hs (.ok p) = .ok p := rfl
theorem KTy_er {hs : List Hdl} {x : Exc} {ρ : Lc} : KTy hs (.err x ρ) = tryH x hs ρ := rfl
theorem sTry_e {b : SD} {hs : List Hdl} {ρ : Lc} : sTry b hs ρ = KTy hs (b ρ) := by
  unfold sTry KTy
  cases b ρ <;> rfl
def KB (io : List Nat) (o : Out (Flow' × Lc)) : Out (D × Lc) := match o with
  | .ok (.rt d, ρ) => .ok (d, outs io ρ)
  | .ok (.nx, ρ) => .ok (.non, outs io ρ)
  | .ok _ => .stuck
  | .err x ρ => .err x (outs io ρ)
  | .stuck => .stuck
theorem KB_rt {io : List Nat} {d : D} {ρ : Lc} : KB io (.ok (.rt d, ρ)) = .ok (d, outs io ρ) := rfl
theorem KB_nx {io : List Nat} {ρ : Lc} : KB io (.ok (.nx, ρ)) = .ok (.non, outs io ρ) := rfl
theorem KB_er {io : List Nat} {x : Exc} {ρ : Lc} : KB io (.err x ρ) = .err x (outs io ρ) := rfl
theorem runB_e {n : Nat} {io : List Nat} {b : SD} {ds : List D} : runB n io b ds = KB io (b (ds.map some ++ List.replicate (n - ds.length) none)) := by
  unfold runB KB
  rfl
theorem outs_nil {ρ : Lc} : outs [] ρ = [] := rfl
theorem outs_0 {a : Option D} {ρ : Lc} : outs [0] (a :: ρ) = [a] := rfl
theorem gsNil_e {ρ : Lc} : gsNil [] ρ = some ρ := rfl
theorem gsCons_e {g : GD} {k : GDs} {d : D} {r : List D} {ρ : Lc} : gsCons g k (d :: r) ρ = (g d ρ).bind (k r) := rfl
theorem gTp_t {n : Nat} {k : GDs} {ds : List D} {ρ : Lc} : gTp n k (.tup ds) ρ = if ds.length = n then k ds ρ else none := rfl
end Pl
set_option maxHeartbeats 4000000
namespace PySem
namespace SupV
open PySem.W PySem.Calls PyProof.Rows PySem.Spec
/-! ### ValueError.__init__ found by super() and bound -/
abbrev VI : Value := .builtin "ValueError.__init__"
abbrev vw (x : Addr) : Obj := { cls := .type "method-wrapper", dict := none, data := .fields #[VI, .ref x], slots := #[] }
theorem type_vi : typeOf VI = pure (.type "wrapper_descriptor") := by
  show builtinType _ = _
  rw [builtinType_eq_fast]
  kernel_rfl
theorem nac_v : (kfb_private% "nameAndClass") VI = (pure (("__init__" : Str), Value.type "ValueError") : Sem (Str × Value)) := by kernel_rfl
section
variable {prog : Program} {w : World} {M : Model} {A : Around} {E : Value → Shared → Prop} {h : Heap} {g : Array GenState} {d : Drawn} {t : Nat} {os : OsState}
theorem wd_get {x C : Addr} {P : Fin → Shared → Prop} (isV : W.Looks M h (isInstance (.ref x) (.type "ValueError")) true) (go : P (.done (.ret (.ref h.objs.size))) ⟨h.push (vw x), g, d, t, os⟩) :
    wpAny M A (Builtin.«wrapper_descriptor.__get__» ⟨[VI, .ref x, .ref C], []⟩) P E ⟨h, g, d, t, os⟩ := by
  unfold Builtin.«wrapper_descriptor.__get__»
  refine wpAny_bind (wpAny_of_eq (a := (VI, some (.ref x), some (.ref C))) (by first | rfl | kernel_rfl) ?_)
  show wpAny M A ((kfb_private% "checkInstance") VI (.ref x) >>= fun _ => newFields "method-wrapper" [VI, .ref x] >>= fun r => ret r) P E _
  refine wpAny_bind ?_
  show wpAny M A ((kfb_private% "nameAndClass") VI >>= _) _ E _
  refine wpAny_bind (wpAny_of_eq nac_v ?_)
  show wpAny M A (isInstance (.ref x) (.type "ValueError") >>= _) _ E _
  exact wpAny_bind (isV.at (KFB.if_not rfl (wpAny_pure (wpAny_bind (wpAny_newObj_type (wpAny_pure go))))))
/-- super().__init__ read -/
theorem sup_ga {so D x C : Addr} {l0 l : List Value} {K : Frag} {tk : Tok} {Q : Fin → Shared → Prop}
    (hs : h.get? so = some { cls := .type "super", dict := none, data := .fields #[.ref D, .ref x, .ref C], slots := #[] }) (no : W.Looks (model prog w) h (opaqueClassAbove (.ref C)) none)
    (mro : W.Looks (model prog w) h (mroOf (.ref C)) l0) (cut : (l0.dropWhile (· != .ref D)).drop 1 = l) (X : K.In h) (al : alongIn K "__init__" l = some (some VI)) (ne : x ≠ C) (isV : W.Looks (model prog w) h (isInstance (.ref x) (.type "ValueError")) true)
    (go : Q (.done (.ret (.ref h.objs.size))) ⟨h.push (vw x), g, d, t, os⟩) : wpAny (model prog w) A (Builtin.«super.__getattribute__» ⟨[.ref so, .str "__init__" tk], []⟩) Q E ⟨h, g, d, t, os⟩ := by
  have lk := PySem.ESX.slot_wd.lookup
  have n0 : (("__init__" : Str) == ("__class__" : Str)) = false := by decide
  have n1 : (Value.ref x == Value.ref C) = false := by simp [ne]
  have ty := type_vi
  have tyI : Shared.TypeIs ⟨h, g, d, t, os⟩ VI "wrapper_descriptor" := type_vi
  have dt : ({ cls := .type "super", dict := none, data := .fields #[.ref D, .ref x, .ref C], slots := #[] } : Obj).data = .fields #[.ref D, .ref x, .ref C] := rfl
  have z0 : (#[.ref D, .ref x, .ref C] : Array Value)[0]? = some (.ref D) := rfl
  have z1 : (#[.ref D, .ref x, .ref C] : Array Value)[1]? = some (.ref x) := rfl
  have z2 : (#[.ref D, .ref x, .ref C] : Array Value)[2]? = some (.ref C) := rfl
  unfold Builtin.«super.__getattribute__»
  repeat (first
    | (with_reducible refine wpAny_field hs dt z0 ?_)
    | (with_reducible refine wpAny_field hs dt z1 ?_)
    | (with_reducible refine wpAny_field hs dt z2 ?_)
    | (with_reducible refine ks_wpAny_notOpaque no ?_)
    | (with_reducible refine Looks.at mro ?_; rw [cut])
    | (refine ks_forIn_along X (fun _ _ => rfl) rfl ?_ al)
    | (with_reducible refine wpAny_call_entry PySem.ESX.slot_wd tyI PySem.ESX.entry_wd ?_ (PySem.ESX.args_wd _ _ _))
    | (with_reducible refine wd_get isV ?_)
    | (with_reducible refine ⟨_, rfl, ?_⟩)
    | (simp only [n0, n1, Bool.or_false, Bool.false_eq_true, if_false])
    | wp_step
    | dsimp only)
  all_goals exact go
theorem sup_method {so D x C : Addr} {l0 l : List Value} {K : Frag} {pl : Sem Bool} {Q : Value × List Value → Shared → Prop}
    (hs : h.get? so = some { cls := .type "super", dict := none, data := .fields #[.ref D, .ref x, .ref C], slots := #[] }) (no : W.Looks (model prog w) h (opaqueClassAbove (.ref C)) none)
    (mro : W.Looks (model prog w) h (mroOf (.ref C)) l0) (cut : (l0.dropWhile (· != .ref D)).drop 1 = l) (X : K.In h) (al : alongIn K "__init__" l = some (some VI)) (ne : x ≠ C) (isV : W.Looks (model prog w) h (isInstance (.ref x) (.type "ValueError")) true)
    (go : Q (.ref h.objs.size, []) ⟨h.push (vw x), g, d, t + 1, os⟩) : wpAny (model prog w) A (getMethod (.ref so) "__init__" pl) Q E ⟨h, g, d, t, os⟩ := by
  have lk := F.ks_slot_super_ga.lookup
  have isS : ∀ n, Shared.TypeIs ⟨h, g, d, n, os⟩ (.ref so) "super" := fun _ => ⟨_, hs, rfl⟩
  unfold getMethod
  refine wpAny_bind (wpAny_specialOf (isS _) lk ?_)
  show wpAny _ _ (if (Manifest.canonical "super.__getattribute__" != "object.__getattribute__") = true then _ else _) _ _ _
  rw [if_pos F.ks_canon_super_ga]
  unfold getAttr
  unfold getAttrBy
  refine wpAny_bind (wpAny_bind (wpAny_mkText (wpAny_holding (wpAny_bind (wpAny_typeOf (isS _) (wpAny_bind (wpAny_of_eq lk ?_)))))))
  show wpAny _ _ (getAttrByItsOwn (.ref so) (.str "__init__" t) (.type "super") (.builtin "super.__getattribute__") true false) _ _ _
  unfold getAttrByItsOwn
  unfold hookBefore
  unfold callGetattribute
  unfold boundAndCalled
  have e0 : (if onTheHeap (.type "super") then typeLookup (.type "super") "__getattr__" else pure none) = (pure none : Sem (Option Value)) := rfl
  refine wpAny_bind (wpAny_of_eq e0 (wpAny_bind (wpAny_attempt (wpAny_holding ?_))))
  show wpAny _ _ (bindSpecial (.builtin "super.__getattribute__") (.ref so) >>= _) _ _ _
  refine wpAny_bind (wpAny_of_eq (F.ks_slot_super_ga.bind _) ?_)
  have call := wpAny_call_entry (A := A) (E := fun _ _ => False) F.ks_slot_super_ga (isS _) F.ks_entry_super_ga (Q := fun v s' => v = .ref h.objs.size ∧ s' = ⟨h.push (vw x), g, d, t + 1, os⟩)
    (sup_ga (tk := t) hs no mro cut X al ne isV ⟨_, rfl, rfl, rfl⟩) (F.ks_gaArgs_super _ _)
  refine wpAny_mono call (fun v s' z => ?_) fun _ _ z => z.elim
  obtain ⟨rfl, rfl⟩ := z
  exact wpAny_pure (wpAny_pure go)
end
section
variable {prog : Program} {w : World} {M : Model} {A : Around} {E : Value → Shared → Prop} {s : Shared}
theorem call_with_vw {pos : Pos} {u x : Addr} {first : List Value} {b : Sem Value} {Q : Value → Shared → Prop}
    (go : wpAny M A (spliced [(false, b)]) (fun vs s1 => s1.heap.get? u = some (vw x) ∧ wpAny M A (call (.ref u) (first ++ vs)) Q E s1) E s) : wpAny M A (callWith pos (.ref u) first [(false, b)] []) Q E s := by
  unfold callWith
  have go2 : wpAny M A (evalArgs (.ref u) true [(false, b)] []) (fun a s1 => s1.heap.get? u = some (vw x) ∧ wpAny M A (call (.ref u) (first ++ a.pos) a.kw) Q E s1) E s := evalArgs_plain (Q := fun a s1 => s1.heap.get? u = some (vw x) ∧ wpAny M A (call (.ref u) (first ++ a.pos) a.kw) Q E s1) go
  refine wpAny_bind (wpAny_holding (wpAny_mono go2 (fun a s1 z => wpAny_bind (wpAny_standAt ?_)) fun _ _ z => z))
  obtain ⟨there, run⟩ := z
  simp only [List.any_cons, List.any_nil, Bool.or_false]
  refine wpAny_bind (m := keeperOf (.ref u)) ?_
  unfold keeperOf
  refine wpAny_bind (wpAny_load there ?_)
  simp only [vw, show (Value.type "method-wrapper" != Value.type "method") = true by decide, show (Value.type "method-wrapper" == Value.type "builtin_function_or_method" || Value.type "method-wrapper" == Value.type "method-wrapper") = true by decide, if_true]
  exact wpAny_pure (wpAny_bind (wpAny_mono run (fun r s2 q => wpAny_bind (wpAny_holding (wpAny_point (wpAny_pure q)))) fun _ _ z => z))
end
section
variable {prog : Program} {w : World} {A : Around} {E : Value → Shared → Prop} {h : Heap} {g : Array GenState} {d : Drawn} {t : Nat} {os : OsState}
variable {nm q : Str} {C N : Addr} {bs bm : List Value} {hd : Bool} {sn : List Str} {sub : List Value} {ab : Bool} {col : Option Bool} {dd : Option Addr} {k0 k1 k2 k3 k5 : Option Value}
/-- the bound ValueError.__init__ called -/
theorem call_vw {u e t0 : Addr} {rest : List Value} {Q : Value → Shared → Prop} (hC : h.get? C = some (excClassObj nm q C N bs bm hd sn sub ab col dd k0 k1 k2 k3 k5 "ValueError.__new__")) (he : h.get? e = some (HandSPX.excO C t0)) (hu : h.get? u = some (vw e)) (hr : rest.length ≤ sizeLine)
    (go : ∀ h' t1, (∀ b o, b ≠ e → h.get? b = some o → h'.get? b = some o) → h'.get? e = some (HandSPX.excO C t1) → Q .none ⟨h', g, d, t, os⟩) : wpAny (model prog w) A (call (.ref u) rest) Q E ⟨h, g, d, t, os⟩ := by
  refine wpAny_call (codeAny_of_tree ?_)
  show wpAny _ A.in1 (callAny (.ref u) ⟨rest, []⟩) _ _ _
  simp only [callAny]
  refine wpAny_bind (wpAny_load hu ?_)
  simp only [vw, show (Value.type "method-wrapper" == Value.type "method" || Value.type "method-wrapper" == Value.type "builtin_function_or_method" || Value.type "method-wrapper" == Value.type "method-wrapper") = true by decide, if_true]
  refine W.KFB.if_so (by decide) (wpAny_bind (PySem.ESX.check_bound F.excBase_ValueError hC he rfl (wpAny_bind (wpAny_pure (wpAny_pure ?_)))))
  refine ⟨Code.quiet_builtin _ (by decide +kernel), codeAny_builtin F.excBase_ValueError.initEntry ?_⟩
  rw [Around.under_plainId F.excBase_ValueError.init.plain _]
  wp_walk
  refine go _ h.objs.size (fun b o nb ob => ?_) ?_
  · exact (Heap.get?_update_other _ _ (Ne.symm nb)).trans (Heap.get?_push_of_some _ ob)
  · exact (Heap.get?_update_self _ (Heap.get?_push_of_some _ he) rfl).trans rfl
end
end SupV
end PySem
set_option maxHeartbeats 4000000
namespace PySem
namespace SupV
open PySem.W PySem.Calls PyProof.Rows PySem.Spec PySem.HandSPX
/-! ### __init__: super().__init__(..); self.f = f -/
/-- what the written part says of the class at C and of its __init__ at fI -/
structure Txt (prog : Program) (K : Frag) (C fI : Addr) (fld : Str) (fd : FuncData) (st1 st2 : Stmt) : Prop where
  cls : ∃ nm q N bs bm sn sub ab col dd k0 k1 k2 k3 k5, K.lookup C = some (excClassObj nm q C N bs bm true sn sub ab col dd k0 k1 k2 k3 k5 "ValueError.__new__") ∧ refsVE bm = true ∧ alongIn K "__init__" bm = some (some VI)
  fn : ∃ (oc : Value) (od : Option Addr) (osl : Array (Option Value)), K.lookup fI = some ⟨oc, od, .func fd, osl⟩
  code : ∃ (cda : Addr) (cc : Value) (cd : Option Addr) (vs : Array Value) (cs : Array (Option Value)) (file : Str) (tf : Tok), fd.code = .ref cda ∧ K.lookup cda = some ⟨cc, cd, .fields vs, cs⟩ ∧ vs[2]? = some (.str file tf) ∧ ((prog.main.file : Str) == file) = true
  codeIn : codeIn K fd.code fd.qualname = true
  cell : ∃ (cl : Addr) (oc : Value) (od : Option Addr) (osl : Array (Option Value)), fd.closure = [(("__class__" : Str), cl)] ∧ K.lookup cl = some ⟨oc, od, .cell (some (.ref C)), osl⟩
  opq : nsIn K cStatics "thirdparty.any" = some none
  glo : fd.globals = mainGlobals
  blt : fd.builtins = builtinsNs
  top : (prog.main.scope.names.lookup ("super" : Str)).isSome = false
  body : fd.body = .stmts [st1, st2]
  par : ∃ ar, (fd.params.posonlyargs ++ fd.params.args).head? = some ar ∧ ar.arg = "self"
  nocell : ∀ y ∈ fd.scope.names, y.2 ≠ .cell
  kself : fd.scope.names.lookup ("self" : Str) = some .local
  kfld : fd.scope.names.lookup fld = some .local
  ksup : fd.scope.names.lookup ("super" : Str) = some .globalImplicit
  kstr : fd.scope.names.lookup ("str" : Str) = some .globalImplicit
  kcls : fd.scope.names.lookup ("__class__" : Str) = some .free
  kfun : fd.scope.kind = .function
  kco : fd.scope.isCoroutine = false
  kgen : fd.scope.isGenerator = false
  sa : findIn K (.ref C) "__setattr__" = some (some (.builtin "object.__setattr__"))
  noN : findIn K (.ref C) fld = some none
theorem cls_of {K : Frag} {C : Addr} {nm q : Str} {N : Addr} {bs bm : List Value} {sn : List Str} {sub : List Value} {ab : Bool} {col : Option Bool} {dd : Option Addr} {k0 k1 k2 k3 k5 : Option Value} {id : String}
    (hC : K.lookup C = some (excClassObj nm q C N bs bm true sn sub ab col dd k0 k1 k2 k3 k5 id)) : clsIn K C = some { name := nm, bases := bs, mro := .ref C :: bm, ns := N, qualname := q, hasDict := true, slotNames := sn, subclasses := sub, abstract := ab, collection := col, hasDel := false } := by
  unfold clsIn
  rw [hC] <;> rfl
section
variable {prog : Program} {w : World} {A : Around} {E : Value → Shared → Prop} {K : Frag} {mg mb : Str → Option Value} {C fI : Addr} {fld : Str} {fd : FuncData} {st1 st2 : Stmt}
/-- the base of super().__init__ in the body: the super object -/
theorem sup_base {body : List Stmt} {L x : Addr} {m : Str → Option Value} {whole : Sem Value} {p0 p1 : Pos} {t0 : Addr} {s : Shared} {Q : Value → Shared → Prop} (T : Txt prog K C fI fld fd st1 st2) (X : K.In s.heap) (gs : s.heap.Ns mainGlobals mg) (bs : s.heap.Ns builtinsNs mb) (hb : ∀ y : Str, y ≠ "__name__" → mb y = bootBuiltins y)
    (ms : mg "super" = none) (hn : s.heap.Ns L m) (hv : m "self" = some (.ref x)) (hx : s.heap.get? x = some (excO C t0))
    (go : ∀ h', h'.get? s.heap.objs.size = some { cls := .type "super", dict := none, data := .fields #[.ref C, .ref x, .ref C], slots := #[] } → (∀ y o, s.heap.get? y = some o → h'.get? y = some o) → Q (.ref s.heap.objs.size) { s with heap := h' }) :
    _root_.PySem.wpAt (model prog w) A (.func body (callEnv fd L fI)) (attributeBase (.Call (.Name "super" p0) [] [] p1) "__init__" (callEnv fd L fI) whole) Q E s := by
  obtain ⟨nm, q, N, bs', bm, sn, sub, ab, col, dd, k0, k1, k2, k3, k5, hC, hbm, hal⟩ := T.cls
  obtain ⟨oc, od, osl, hf⟩ := T.fn
  obtain ⟨cda, cc, cd, vs, cs, file, tf, ec, hcd, hvs, hfile⟩ := T.code
  obtain ⟨cl, oc2, od2, osl2, ecl, hcl⟩ := T.cell
  obtain ⟨ar, har, ea⟩ := T.par
  obtain ⟨hh, g, d, t, os⟩ := s
  have hcls := cls_of hC
  have gE : (callEnv fd L fI).globals = mainGlobals := T.glo
  have bE : (callEnv fd L fI).builtins = builtinsNs := T.blt
  refine ks_wpAt_super_base (env := callEnv fd L fI) T.ksup T.kcls (by decide) rfl (X _ _ hf) rfl har ec (X _ _ hcd) rfl hvs hfile T.top ?_
  refine ks_loadName_global T.kfun T.ksup (loadGlobal_builtin (by rw [gE]; exact gs) ms (by rw [bE]; exact bs) ((hb _ (by decide +kernel)).trans (by decide +kernel : bootBuiltins "super" = some (.type "super"))) ⟨rfl, ?_⟩)
  refine wpAny_loadName_free T.kfun T.kcls (show (callEnv fd L fI).cells.lookup ("__class__" : Str) = some cl from ?_) ⟨_, X _ _ hcl, rfl⟩ ?_
  · show fd.closure.lookup ("__class__" : Str) = some cl
    rw [ecl]
    rfl
  · rw [ea]
    refine wpAny_loadName_local T.kfun T.kself hn hv ?_
    have hC' := X _ _ hC
    refine ks_wpAny_isType_cls hC' rfl ⟨rfl, ?_⟩
    refine ks_wpAny_call_super hC' rfl hx rfl (fun c z => by cases z) (looks_mroIn X ?_) go
    unfold mroIn
    rw [hcls]
    have e0 : (Value.ref C :: bm).contains (.ref C) = true := by rw [List.contains_cons, beq_self_eq_true, Bool.true_or]
    rw [Option.bind_some, if_neg (show ¬ (List.isEmpty (Value.ref C :: bm) = true) from Bool.false_ne_true), e0]
end
end SupV
end PySem
set_option maxHeartbeats 4000000
namespace PySem
namespace SupV
open PySem.W PySem.Calls PyProof.Rows PySem.Spec PySem.HandSPX
section
variable {prog : Program} {w : World} {A : Around} {E : Value → Shared → Prop} {K : Frag} {mg mb : Str → Option Value} {C fI : Addr} {fld : Str} {fd : FuncData} {st1 st2 : Stmt}
/-- a text and a number's text -/
theorem msg_int {L : Addr} {m : Str → Option Value} {s : Shared} {msg : Str} {j : Nat} {cp bp sp vp kp : Pos} {n : Int} {tn : Tok} {Q : Value → Shared → Prop} (T : Txt prog K C fI fld fd st1 st2) (gs : s.heap.Ns mainGlobals mg) (bs : s.heap.Ns builtinsNs mb) (hb : ∀ y : Str, y ≠ "__name__" → mb y = bootBuiltins y)
    (ms : mg "str" = none) (hn : s.heap.Ns L m) (hv : m fld = some (.int n tn)) (hf : (fld == ("__debug__" : Str)) = false) (hl : n.natAbs.log2 < 1920) (hm : msg.length ≤ 1000) (m0 : (msg.length == 0) = false) (n0 : ((toString n : Str).length == 0) = false)
    (go : ∀ tk tk', Q (.str (msg ++ (toString n : Str)) tk) { s with toks := tk' }) :
    wpAny (model prog w) A (eval (.BinOp (.Constant (.str msg) j cp) .Add (.Call (.Name "str" sp) [.Name fld vp] [] kp) bp) (callEnv fd L fI)) Q E s := by
  have gE : (callEnv fd L fI).globals = mainGlobals := T.glo
  have bE : (callEnv fd L fI).builtins = builtinsNs := T.blt
  refine wpAny_BinOp (wpAny_Constant_str (PyProof.Rows.Call_ (wpAny_Name (ks_loadName_global T.kfun T.kstr (loadGlobal_builtin (by rw [gE]; exact gs) ms (by rw [bE]; exact bs) ((hb _ (by decide +kernel)).trans (by decide +kernel : bootBuiltins "str" = some (.type "str"))) ?_)))))
  refine PyProof.Rows.callWith_type1 (Calls.spliced_cons (wpAny_Name (wpAny_loadName_local T.kfun T.kfld hn hv (Calls.spliced_nil ?_)) hf)) rfl rfl
  refine PySem.P.str_of_int hl (PySem.P.add_str ?_)
  rw [m0]
  rw [n0]
  refine ⟨?_, go _ _⟩
  have h1 := int_text_length_le (k := 1920) (by decide) hl
  have h2 : (toString n : Str).length = (toString n : String).length := ofString_length _
  rw [strLen_append, h2, sizeLine_eq]
  omega
/-- the whole of __init__ -/
theorem sup_init {x t0 : Addr} {s : Shared} {msg : Str} {j : Nat} {p0 p1 ap cp0 bp sp vp kp cp ep q1 q2 q3 q4 : Pos} {n : Int} {tn : Tok} {R : Result → Shared → Prop} (T : Txt prog K C fI fld fd st1 st2)
    (e1 : st1 = .Expr (.Call (.Attribute (.Call (.Name "super" p0) [] [] p1) "__init__" ap) [.BinOp (.Constant (.str msg) j cp0) .Add (.Call (.Name "str" sp) [.Name fld vp] [] kp) bp] [] cp) ep) (e2 : st2 = .Assign [.Attribute (.Name "self" q1) fld q2] (.Name fld q3) q4)
    {pl : Sem Bool} (hev : ∀ L, eval (.Call (.Attribute (.Call (.Name "super" p0) [] [] p1) "__init__" ap) [.BinOp (.Constant (.str msg) j cp0) .Add (.Call (.Name "str" sp) [.Name fld vp] [] kp) bp] [] cp) (callEnv fd L fI) = (do
      let ov ← attributeBase (.Call (.Name "super" p0) [] [] p1) "__init__" (callEnv fd L fI) (eval (.Call (.Name "super" p0) [] [] p1) (callEnv fd L fI))
      standAt ap.atName
      let (f, first) ← holding [ov] (getMethod ov "__init__" pl)
      callWith cp f first (backTo cp (starEach [.BinOp (.Constant (.str msg) j cp0) .Add (.Call (.Name "str" sp) [.Name fld vp] [] kp) bp] (callEnv fd L fI))) []))
    (X : K.In s.heap) (lim : s.heap.NoLimit) (gs : s.heap.Ns mainGlobals mg) (bs : s.heap.Ns builtinsNs mb) (hb : ∀ y : Str, y ≠ "__name__" → mb y = bootBuiltins y) (ms : mg "super" = none) (mt : mg "str" = none)
    (hx : s.heap.get? x = some (excO C t0)) (nx : K.lookup x = none) (room : A.depth < recursionLimit) (bind : BindsTo s fd ⟨[.ref x, .int n tn], []⟩ [("self", .ref x), (fld, .int n tn)]) (hf : (fld == ("__debug__" : Str)) = false) (hs : (fld == ("self" : Str)) = false)
    (hl : n.natAbs.log2 < 1920) (hm : msg.length ≤ 1000) (m0 : (msg.length == 0) = false) (n0 : ((toString n : Str).length == 0) = false)
    (go : ∀ h' tk dx t1, (∀ b o, b ≠ x → s.heap.get? b = some o → h'.get? b = some o) → h'.get? x = some { cls := .ref C, dict := some dx, data := .fields #[.ref t1, .none, .none, .none, .bool false, .none] } → s.heap.objs.size ≤ dx → dx ≠ x → h'.Ns1 dx (fun y => if y = fld then some (.int n tn) else none) →
      R (.ok (.ret .none)) { s with heap := h', toks := tk }) : codeAny (model prog w) A (.call (.ref fI) ⟨[.ref x, .int n tn], []⟩) R s := by
  obtain ⟨nm, q, N, bs', bm, sn, sub, ab, col, dd, k0, k1, k2, k3, k5, hC, hbm, hal⟩ := T.cls
  obtain ⟨oc, od, osl, hfn⟩ := T.fn
  have hcls := cls_of hC
  have kinds : ∀ y ∈ ([("self", .ref x), (fld, .int n tn)] : List (Str × Value)), fd.scope.names.lookup y.1 = some .local := fun y hy => by
    rcases List.mem_cons.mp hy with rfl | hy
    · exact T.kself
    · rw [List.mem_singleton.mp hy]
      exact T.kfld
  refine ks_codeAny_call_defAt room (X _ _ hfn) rfl lim (codeRec_of X T.codeIn) T.body bind T.nocell kinds (fun h0 hn k => ?_) T.kco T.kgen T.kfun
  have vself : (fun y => ([("self", .ref x), (fld, .int n tn)] : List (Str × Value)).reverse.lookup y) "self" = some (.ref x) := by
    show (match ("self" : Str) == fld with | true => some (Value.int n tn) | false => List.lookup ("self" : Str) [(("self" : Str), Value.ref x)]) = _
    have : (("self" : Str) == fld) = false := by rw [Bool.eq_false_iff] at hs ⊢; exact fun z => hs (by rw [eq_of_beq z, beq_self_eq_true])
    rw [this]
    rfl
  have vfld : (fun y => ([("self", .ref x), (fld, .int n tn)] : List (Str × Value)).reverse.lookup y) fld = some (.int n tn) := by
    show (match fld == fld with | true => some (Value.int n tn) | false => _) = _
    rw [beq_self_eq_true]
  generalize (fun y => ([("self", .ref x), (fld, .int n tn)] : List (Str × Value)).reverse.lookup y) = m at hn vself vfld
  subst e1 e2
  have X0 : K.In h0 := X.keeps k
  have hxL : x ≠ s.heap.objs.size := Nat.ne_of_lt (Heap.lt_size hx)
  have hi : interactive (callEnv fd s.heap.objs.size fI) = false := by
    unfold interactive
    have : (callEnv fd s.heap.objs.size fI).scope.kind = .function := T.kfun
    rw [this]
    simp
  refine ks_wpAt_execs_cons (ks_wpAt_Expr_any (hi := hi) (ks_wpAt_MethodCall (pl := pl) ?_ (hev _)))
  refine sup_base (s := { s with heap := h0, toks := s.toks + 2 }) T X0 (gs.keeps k) (bs.keeps k) hb ms hn vself (k _ _ hx) fun h1 hso k1 => ?_
  have X1 : K.In h1 := X0.keeps k1
  have hn1 : h1.Ns s.heap.objs.size m := hn.keeps k1
  have hx1 : h1.get? x = some (excO C t0) := k1 _ _ (k _ _ hx)
  have I1 : InstAt h1 x (excO C t0) C none := ⟨hx1, rfl, rfl, trivial⟩
  have sub : ∀ Y : String, bm.contains (.type Y) = true → mroIn K C (.type Y) = some true := fun Y hY => by
    unfold mroIn
    rw [hcls]
    have z : (Value.ref C :: bm).contains (.type Y) = true := by rw [List.contains_cons, hY, Bool.or_true]
    rw [Option.bind_some, if_neg (show ¬ (List.isEmpty (Value.ref C :: bm) = true) from Bool.false_ne_true), z]
  have isV : W.Looks (model prog w) h1 (isInstance (.ref x) (.type "ValueError")) true := I1.type.andThen (looks_mroIn X1 (sub "ValueError" (by rw [refsVE_contains _ _ hbm] <;> rfl)))
  have hmro : W.Looks (model prog w) h1 (mroOf (.ref C)) (Value.ref C :: bm) := (looks_clsIn X1 hcls).andThen .now
  have neC : x ≠ C := fun z => by rw [z, hC] at nx; cases nx
  refine sup_method hso (looks_opaque X1 T.opq) hmro (PySem.ESX.drop_own C bm) X1 hal neC isV ?_
  have hn2 : (h1.push (vw x)).Ns s.heap.objs.size m := hn1.keeps fun _ _ z => Heap.get?_push_of_some _ z
  have gs2 := ((gs.keeps k).keeps k1).keeps (h' := h1.push (vw x)) fun _ _ z => Heap.get?_push_of_some _ z
  have bs2 := ((bs.keeps k).keeps k1).keeps (h' := h1.push (vw x)) fun _ _ z => Heap.get?_push_of_some _ z
  have one : (1:Nat) ≤ sizeLine := by rw [sizeLine_eq]; omega
  refine call_with_vw (x := x) (Calls.spliced_cons (msg_int T gs2 bs2 hb mt hn2 vfld hf hl hm m0 n0 fun tk tk' => Calls.spliced_nil ?_))
  refine ⟨?_, ?_⟩
  · heap_get
  · refine call_vw (h := h1.push (vw x)) (g := s.2) (d := s.3) (t := tk') (os := s.5) (e := x) (rest := [.str (msg ++ (toString n : Str)) tk]) (Heap.get?_push_of_some _ (X1 _ _ hC)) (Heap.get?_push_of_some _ hx1) (by heap_get) one fun h2 t1 k2 hx2 => ?_
    have X2 : K.In h2 := fun b o z => k2 b o (fun e => by rw [e, nx] at z; cases z) (Heap.get?_push_of_some _ (X1 _ _ z))
    have hn3 : h2.Ns s.heap.objs.size m := hn2.at fun o z => k2 _ o hxL.symm z
    show wpAt _ _ _ (execs _ _) _ _ _
    refine wpAt_of_wpAny (wpAny_execs_cons (plainObj_wpAny_Assign_Attribute ?_))
    refine wpAny_Name (wpAny_loadName_local T.kfun T.kfld hn3 vfld (wpAny_Name (wpAny_loadName_local T.kfun T.kself hn3 vself ?_) (by decide))) hf
    refine set_plain X2 (ox := excO C t1) (od := none) ⟨hx2, rfl, rfl, trivial⟩ T.sa ?_
    refine exc_osa X2 hx2 hcls (show refsVE (.ref C :: bm) = true from hbm) rfl T.noN (fun h3 tk3 dx k3 dn dne hx3 hn4 => ?_)
    show wpAny _ _ (execs [] _) _ _ _
    refine wpAny_execs_nil (go h3 tk3 dx t1 (fun b o nb z => k3 b o nb (k2 b o nb (Heap.get?_push_of_some _ (k1 _ _ (k _ _ z))))) hx3 (Nat.le_of_lt (Nat.lt_of_lt_of_le hn3.lt dn)) dne hn4)
end
end SupV
end PySem
set_option maxHeartbeats 4000000
namespace PySem
namespace SupV
open PySem.W PySem.Calls PyProof.Rows PySem.Spec PySem.HandSPX
section
variable {prog : Program} {w : World} {A : Around} {K : Frag} {mg mb : Str → Option Value} {C fI : Addr} {fld : Str} {fd : FuncData} {st1 st2 : Stmt}
/-- a made exception at e: its one field -/
structure Made (h h' : Heap) (e C d : Addr) (fld : Str) (v : Value) : Prop where
  keep : ∀ b o, h.get? b = some o → h'.get? b = some o
  new : h.objs.size ≤ e
  obj : ∃ oe vs, h'.get? e = some oe ∧ oe.cls = .ref C ∧ oe.dict = some d ∧ oe.data = .fields vs ∧ vs[1]? = some .none
  dbig : h.objs.size ≤ d
  dne : d ≠ e
  ns : h'.Ns1 d (fun y => if y = fld then some v else none)
/-- the class called -/
theorem sup_made {s : Shared} {msg : Str} {j : Nat} {p0 p1 ap cp0 bp sp vp kp cp ep q1 q2 q3 q4 : Pos} {n : Int} {tn : Tok} {R : Result → Shared → Prop} (T : Txt prog K C fI fld fd st1 st2)
    (e1 : st1 = .Expr (.Call (.Attribute (.Call (.Name "super" p0) [] [] p1) "__init__" ap) [.BinOp (.Constant (.str msg) j cp0) .Add (.Call (.Name "str" sp) [.Name fld vp] [] kp) bp] [] cp) ep) (e2 : st2 = .Assign [.Attribute (.Name "self" q1) fld q2] (.Name fld q3) q4)
    {pl : Sem Bool} (hev : ∀ L, eval (.Call (.Attribute (.Call (.Name "super" p0) [] [] p1) "__init__" ap) [.BinOp (.Constant (.str msg) j cp0) .Add (.Call (.Name "str" sp) [.Name fld vp] [] kp) bp] [] cp) (callEnv fd L fI) = (do
      let ov ← attributeBase (.Call (.Name "super" p0) [] [] p1) "__init__" (callEnv fd L fI) (eval (.Call (.Name "super" p0) [] [] p1) (callEnv fd L fI))
      standAt ap.atName
      let (f, first) ← holding [ov] (getMethod ov "__init__" pl)
      callWith cp f first (backTo cp (starEach [.BinOp (.Constant (.str msg) j cp0) .Add (.Call (.Name "str" sp) [.Name fld vp] [] kp) bp] (callEnv fd L fI))) []))
    (iC : findIn K (.ref C) "__init__" = some (some (.ref fI))) (tC : typeIn K (.ref fI) = some (.type "function"))
    (X : K.In s.heap) (lim : s.heap.NoLimit) (gs : s.heap.Ns mainGlobals mg) (bs : s.heap.Ns builtinsNs mb) (hb : ∀ y : Str, y ≠ "__name__" → mb y = bootBuiltins y) (ms : mg "super" = none) (mt : mg "str" = none)
    (room : A.depth + 1 < recursionLimit) (bind : ∀ s1 x, BindsTo s1 fd ⟨[.ref x, .int n tn], []⟩ [("self", .ref x), (fld, .int n tn)]) (hf : (fld == ("__debug__" : Str)) = false) (hs : (fld == ("self" : Str)) = false)
    (hl : n.natAbs.log2 < 1920) (hm : msg.length ≤ 1000) (m0 : (msg.length == 0) = false) (n0 : ((toString n : Str).length == 0) = false)
    (hq : ∀ h' tk e d, Made s.heap h' e C d fld (.int n tn) → R (.ok (.ret (.ref e))) { s with heap := h', toks := tk }) : codeAny (model prog w) A (.call (.ref C) ⟨[.int n tn], []⟩) R s := by
  obtain ⟨nm, q, N, bs', bm, sn, sub, ab, col, dd, k0, k1, k2, k3, k5, hC, hbm, hal⟩ := T.cls
  obtain ⟨hp, g, dr, tk, os⟩ := s
  have k : ∀ b o, hp.get? b = some o → ((hp.push (kdv_tup [.int n tn])).push (excO C hp.objs.size)).get? b = some o := fun b o e => Heap.get?_push_of_some _ (Heap.get?_push_of_some _ e)
  have hget : ((hp.push (kdv_tup [.int n tn])).push (excO C hp.objs.size)).get? (hp.objs.size + 1) = some (excO C hp.objs.size) := by heap_get
  have hnx : K.lookup (hp.objs.size + 1) = none := by
    cases e : K.lookup (hp.objs.size + 1) with
    | none => rfl
    | some o => exact absurd (Nat.lt_of_succ_lt (Heap.lt_size (X _ _ e : hp.get? _ = some o))) (Nat.lt_irrefl _)
  have one : (1:Nat) ≤ sizeLine := by rw [sizeLine_eq]; omega
  refine call_own F.excBase_ValueError (fun X => refsVE_contains X bm hbm) (X _ _ hC) (looks_findIn X iC) (fun self => bind_fn X self tC) one ?_
  refine sup_init (s := ⟨(hp.push (kdv_tup [.int n tn])).push (excO C hp.objs.size), g, dr, tk, os⟩) T e1 e2 hev (X.keeps k) (lim.keeps k) (gs.keeps k) (bs.keeps k) hb ms mt hget hnx room (bind _ _) hf hs hl hm m0 n0 fun h' tk' dx t1 k' hx dn dne hns => ?_
  have old : ∀ b o, hp.get? b = some o → h'.get? b = some o := fun b o e => k' b o (Nat.ne_of_lt (Nat.lt_succ_of_lt (Heap.lt_size e))) (k b o e)
  have z : hp.objs.size + 1 + 1 ≤ dx := by
    have q := dn
    rw [Heap.size_push, Heap.size_push] at q
    exact q
  exact ⟨rfl, hq h' tk' (hp.objs.size + 1) dx ⟨old, Nat.le_succ _, ⟨_, _, hx, rfl, rfl, rfl, rfl⟩, Nat.le_trans (Nat.le_trans (Nat.le_succ _) (Nat.le_succ _)) z, dne, hns⟩⟩
end
end SupV
end PySem
set_option maxHeartbeats 4000000
namespace PySem
namespace SupV
open PySem.W PySem.Calls PyProof.Rows PySem.Spec PySem.HandSPX
theorem txt_some (n : Int) : ((toString n : Str).length == 0) = false := by
  have h2 : (toString n : Str).length = (toString n : String).length := ofString_length _
  rw [h2]
  cases n with
  | ofNat a =>
    show (((Nat.repr a).length == 0) = false)
    have : 0 < (Nat.repr a).length := Nat.length_repr_pos
    have : (Nat.repr a).length ≠ 0 := by omega
    simp
  | negSucc a =>
    show ((("-" ++ Nat.repr (a+1)).length == 0) = false)
    rw [String.length_append]
    simp
/-- what the written part says of an own error with one field, at C: called with a number it makes one that bears it -/
structure Own1 (prog : Program) (K : Frag) (mg : Str → Option Value) (cn : Str) (C : Addr) (fld : Str) : Prop where
  gC : mg cn = some (.ref C)
  kC : keepIn K (.ref C) = true
  exC : subIn K (.ref C) (.type "BaseException") = some true
  tyC : typeIn K (.ref C) = some (.type "type")
  hdC : hasDictIn K C = true
  ga : findIn K (.ref C) "__getattribute__" = some (some (.builtin "BaseException.__getattribute__"))
  gg : findIn K (.ref C) "__getattr__" = some none
  noN : findIn K (.ref C) fld = some none
  te : exmOne K (.ref C) (.ref C) = some true
  made : ∀ {w : World} {A : Around} {mb : Str → Option Value} {s : Shared} {n : Int} {tn : Tok} {R : Result → Shared → Prop}, K.In s.heap → s.heap.NoLimit → s.heap.Ns mainGlobals mg → s.heap.Ns builtinsNs mb → (∀ y : Str, y ≠ "__name__" → mb y = bootBuiltins y) → A.depth + 1 < recursionLimit → n.natAbs.log2 < 1920 →
    (∀ h' tk e d, Made s.heap h' e C d fld (.int n tn) → R (.ok (.ret (.ref e))) { s with heap := h', toks := tk }) → codeAny (model prog w) A (.call (.ref C) ⟨[.int n tn], []⟩) R s
end SupV
end PySem
namespace L2
open PySem PySem.Spec PyProof.Rows PySem.SupV
theorem relO_one {v : V} {v' : Value} {fld : Str} (r : RelV v v') (f : Str) : RelO (List.lookup f [(fld, v)]) (if f = fld then some v' else none) := by
  by_cases hw : f = fld
  · subst hw
    rw [if_pos rfl]
    have q : List.lookup f [(f, v)] = some v := by simp [List.lookup]
    rw [q]
    exact r
  · rw [if_neg hw]
    have qw : (f == fld) = false := by simpa using hw
    have q2 : List.lookup f [(fld, v)] = none := by simp [List.lookup, qw]
    rw [q2]
    trivial
section
variable {X : Cx} {C : Addr} {cn fld : Str}
/-- C(e), e a number -/
def tMk1 (C : Addr) (fld : Str) (ta : TA) : St → Hp → XK → Prop := fun σ H Q => ta σ H fun vs H1 => ∃ n : Int, vs = [.int n] ∧ n.natAbs.log2 < 1920 ∧ ∀ d, H1 d = none → Q (.ref C) (some d) (upd H1 d (.xd [(fld, .int n)]))
theorem pmk_one {a : Expr} {ta : TA} {p pos : Pos} {k : Nat} (T : Own1 X.prog X.K X.mg cn C fld) (hr : Room k X.A) (ha : PA X [a] ta) (hcd : (cn == ("__debug__" : Str)) = false) (hg : Gl X cn := by rfl)
    (he : starEach (a :: []) X.env = (false, eval a X.env) :: starEach [] X.env := by rfl) (hpl : (backTo pos (starEach [] X.env)).any (·.1) = false := by rfl) :
    PMk X (.Call (.Name cn p) [a] [] pos) (tMk1 C fld ta) := by
  intro pins s σ H Q I h
  refine wpAny_Call_Name_kw (ld_glob I hg T.gC ?_ hcd)
  refine PySem.W.callWith_K (h₀ := X.base) I.ok.mod.kin T.kC (thn (ha.run pos pins s σ H _ I h) fun us s1 hh => ?_) he hpl
  obtain ⟨vs, H1, I1, r1, n, ev, hl, q1⟩ := hh
  subst ev
  refine ⟨I1.kIn, ?_⟩
  cases r1 with
  | cons rv rn =>
    rename_i v' us'
    cases rn
    show wpAny _ _ (call (.ref C) [v']) _ _ _
    have rv0 : RelV (.int n) v' := rv
    obtain ⟨tn, ev'⟩ : ∃ tn, v' = .int n tn := rv
    subst ev'
    have hlim := I1.nolimit
    obtain ⟨mb, b1, b2⟩ := I1.mod.blt
    have gs := I1.mod.glob.keeps I1.bk
    have bs := b1.keeps I1.bk
    have kin := I1.kIn
    obtain ⟨hp, g, dr, tk, os⟩ := s1
    refine wpAny_call (T.made (s := ⟨hp, g, dr, tk, os⟩) kin hlim gs bs b2 (by have := hr.dp; omega) hl fun h' tk' e d M => ?_)
    show MkP X pins σ Q (.ref e) ⟨h', g, dr, tk', os⟩
    obtain ⟨oe, fv, hoe, hc, hd, hdat, h1⟩ := M.obj
    have hns := M.ns
    obtain ⟨G', g1, g2⟩ := restrict h' fun b => decide (b ≠ e)
    have gk : ∀ b, b ≠ e → G'.get? b = h'.get? b := fun b hb => g1 b (decide_eq_true hb)
    have ge : G'.get? e = none := g2 e (by simp)
    have old : ∀ b o, hp.get? b = some o → G'.get? b = some o := fun b o q => (gk b (Nat.ne_of_lt (Nat.lt_of_lt_of_le (Heap.lt_size q) M.new))).trans (M.keep b o q)
    have ob : ObjOk X.prog X.w (upd H1 d (.xd [(fld, .int n)])) G' d (.xd [(fld, .int n)]) :=
      ⟨_, hns.at (fun o q => (gk d M.dne).trans q), fun f => relO_one rv0 f⟩
    have J : Inv X pins σ (upd H1 d (.xd [(fld, .int n)])) ⟨G', g, dr, tk', os⟩ := I1.laid (t' := tk') old M.dbig ob
    refine ⟨e, oe, fv, ⟨G', g, dr, tk', os⟩, _, .ref C, some d, rfl, J, fun b o q => ?_, ge, hoe, ⟨hc, hd⟩, hdat, h1, ?_, rfl, I1.bare, raises_own T.exC T.tyC, q1 d (I1.hok.fresh M.dbig)⟩
    · by_cases hb : b = e
      · have q' : G'.get? b = some o := q
        rw [hb, ge] at q'; cases q'
      · exact (gk b hb).symm.trans q
    · rw [upd_ne (Ne.symm M.dne)]
      exact I1.hok.fresh M.new
/-- raise C(e) -/
def tRaise1 (C : Addr) (fld : Str) (W : WX) (ta : TA) : TS := fun _ σ H => tMk1 C fld ta σ H fun cls d H' => W cls d σ H'
theorem ps_raise1 {a : Expr} {ta : TA} {W : WX} {p pos pos2 : Pos} {k : Nat} (hc : X.calm = true) (T : Own1 X.prog X.K X.mg cn C fld) (hr : Room k X.A) (tk : Takes X W) (ha : PA X [a] ta) (hcd : (cn == ("__debug__" : Str)) = false) (hg : Gl X cn := by rfl)
    (he : starEach (a :: []) X.env = (false, eval a X.env) :: starEach [] X.env := by rfl) (hpl : (backTo pos (starEach [] X.env)).any (·.1) = false := by rfl) :
    PS X (.Raise (some (.Call (.Name cn p) [a] [] pos)) none pos2) (tRaise1 C fld W ta) := ps_raise hc tk (pmk_one T hr ha hcd hg he hpl)
/-- e.f, e the exception that the suite holds (at a; its class cls, its dict d) -/
def tFld1 (C : Addr) (fld : Str) (a : Addr) (cls : Value) (d : Option Addr) (te : TE) : TE := fun σ H Q => te σ H fun x H1 => x = .ref a ∧ cls = .ref C ∧ ∃ (dd : Addr) (v : V), d = some dd ∧ H1 dd = some (.xd [(fld, v)]) ∧ Q v H1
theorem pe_fld1 {a : Addr} {oe : Obj} {cls : Value} {d : Option Addr} {pn : List (Addr × Obj)} {e : Expr} {te : TE} {pos : Pos} (T : Own1 X.prog X.K X.mg cn C fld) (hz : Zc cls d oe) (hf : ∃ vs, oe.data = .fields vs) (he : PE (X.suite a ((a, oe) :: pn)) e te)
    (hb : attributeBase e fld X.env (eval e X.env) = eval e X.env := by rfl) :
    PE (X.suite a ((a, oe) :: pn)) (.Attribute e fld pos) (tFld1 C fld a cls d te) := by
  refine ⟨fun pins s σ H Q I h => ?_⟩
  refine attr_of hb (thn (he.run pins s σ H _ I h) fun u s1 hh => ?_)
  obtain ⟨x, H1, I1, rx, ex, ec, dd, v, ed, ea, q⟩ := hh
  subst ex
  obtain rfl : u = Value.ref a := rx
  subst ec
  subst ed
  obtain ⟨ha, _⟩ := I1.pin (a, oe) (List.mem_append_left _ List.mem_cons_self)
  obtain ⟨vs, hd⟩ := hf
  have hx : ObjOk X.prog X.w H1 s1.heap dd (.xd [(fld, v)]) := I1.hok dd _ ea
  obtain ⟨mA, hns, hr⟩ := hx
  obtain ⟨od, ho, hl⟩ := lookIn_ns hns
  have l : List.lookup fld [(fld, v)] = some v := by simp [List.lookup]
  obtain ⟨u, hu, ru⟩ := RelO.some_of (v := v) (o := mA fld) (by rw [← l]; exact hr fld)
  have J : PySem.W.InstAt s1.heap a oe C (some od) := ⟨ha, hz.1, by unfold PySem.W.notCls; rw [hd] <;> rfl, by rw [hz.2]; exact ho⟩
  exact HandSPX.exc_get I1.kIn J T.ga T.gg T.exC (PySem.W.findObj_own T.hdC T.noN rfl (by rw [hl, hu])) (handed_of ru) ⟨v, H1, I1.tok _, ru, q⟩
end
end L2
namespace PySem
namespace SupV
open PySem.W PySem.Calls PyProof.Rows PySem.Spec PySem.HandSPX
/-- from the written part: the body of __init__ as the text has it (msg + str(fld); self.fld = fld) -/
theorem Own1.of {prog : Program} {K : Frag} {mg : Str → Option Value} {cn : Str} {C fI : Addr} {fld msg : Str} {fd : FuncData} {j : Nat} {p0 p1 ap cp0 bp sp vp kp cp ep q1 q2 q3 q4 : Pos}
    (T : Txt prog K C fI fld fd (.Expr (.Call (.Attribute (.Call (.Name "super" p0) [] [] p1) "__init__" ap) [.BinOp (.Constant (.str msg) j cp0) .Add (.Call (.Name "str" sp) [.Name fld vp] [] kp) bp] [] cp) ep) (.Assign [.Attribute (.Name "self" q1) fld q2] (.Name fld q3) q4))
    {pl : Sem Bool} (hev : ∀ L, eval (.Call (.Attribute (.Call (.Name "super" p0) [] [] p1) "__init__" ap) [.BinOp (.Constant (.str msg) j cp0) .Add (.Call (.Name "str" sp) [.Name fld vp] [] kp) bp] [] cp) (callEnv fd L fI) = (do
      let ov ← attributeBase (.Call (.Name "super" p0) [] [] p1) "__init__" (callEnv fd L fI) (eval (.Call (.Name "super" p0) [] [] p1) (callEnv fd L fI))
      standAt ap.atName
      let (f, first) ← holding [ov] (getMethod ov "__init__" pl)
      callWith cp f first (backTo cp (starEach [.BinOp (.Constant (.str msg) j cp0) .Add (.Call (.Name "str" sp) [.Name fld vp] [] kp) bp] (callEnv fd L fI))) []))
    (bind : ∀ s1 x (n : Int) tn, BindsTo s1 fd ⟨[.ref x, .int n tn], []⟩ [("self", .ref x), (fld, .int n tn)]) (hf : (fld == ("__debug__" : Str)) = false) (hs : (fld == ("self" : Str)) = false) (hm : msg.length ≤ 1000) (m0 : (msg.length == 0) = false)
    (ms : mg "super" = none) (mt : mg "str" = none) (gC : mg cn = some (.ref C)) (iC : findIn K (.ref C) "__init__" = some (some (.ref fI))) (tC : typeIn K (.ref fI) = some (.type "function"))
    (kC : keepIn K (.ref C) = true) (exC : subIn K (.ref C) (.type "BaseException") = some true) (tyC : typeIn K (.ref C) = some (.type "type")) (hdC : hasDictIn K C = true)
    (ga : findIn K (.ref C) "__getattribute__" = some (some (.builtin "BaseException.__getattribute__"))) (gg : findIn K (.ref C) "__getattr__" = some none) (te : exmOne K (.ref C) (.ref C) = some true) : Own1 prog K mg cn C fld :=
  { gC := gC, kC := kC, exC := exC, tyC := tyC, hdC := hdC, ga := ga, gg := gg, noN := T.noN, te := te,
    made := fun X lim gs bs hb room hl hq => sup_made T rfl rfl hev iC tC X lim gs bs hb ms mt room (fun s1 x => bind s1 x _ _) hf hs hl hm m0 (txt_some _) hq }
end SupV
end PySem
set_option maxHeartbeats 4000000
namespace PySem
namespace SupV
/-- the head's hook with the module of C's statics in the fragment too -/
def frY (g : Addr → Option Obj) (n : Nat) : PySem.W.Frag := He.frG g (PySem.cStatics :: He.asD g n)
def hookY (n : Nat) (fa : List He.Fa) (fn : List He.DefD) (ex : PySem.W.Frag → Bool) : PySem.W.Hook where
  α := He.AlD × Bool
  obs := fun s => (He.obsD fa fn (frY s.heap.get? n), ex (frY s.heap.get? n))
  val := fun _ => (He.valD fn, true)
  says := fun _ h => ∃ K : PySem.W.Frag, K.In h ∧ He.SaysD fa fn K ∧ ex K = true
  of := fun _ _ e => ⟨_, He.frG_in, congrArg Prod.fst e, congrArg Prod.snd e⟩
  keeps := fun _ _ _ ⟨K, hK, c⟩ k => ⟨K, PySem.W.Frag.In.keeps hK k, c⟩
def obsY (n : Nat) (fa : List He.Fa) (fn : List He.DefD) (ex : PySem.W.Frag → Bool) (g : Addr → Option Obj) : He.AlD × Bool := (He.obsD fa fn (frY g n), ex (frY g n))
theorem obsY_eq {n : Nat} {fa : List He.Fa} {fn : List He.DefD} {ex : PySem.W.Frag → Bool} {g : Addr → Option Obj} {s : Shared} (h : ∀ a, g a = s.heap.get? a) : obsY n fa fn ex g = (hookY n fa fn ex).obs s := by
  have e : g = s.heap.get? := funext h
  rw [e] <;> rfl
end SupV
end PySem
set_option maxHeartbeats 4000000
namespace Pl
open PySem PySem.Spec L2 PyProof.Rows PySem.SupV
section
variable {X : Cx} {io oe : List Nat} {G : Pc io oe} {O Ol : List Nat} {C : Addr} {cn fld : Str}
def sRaiseF (cn fld : Str) (f : AD) : SD := fun ρ => (f ρ).bind fun p => match p.1 with
  | [.int n] => if n.natAbs.log2 < 1920 then .err ⟨cn, [(fld, .int n)]⟩ p.2 else .stuck
  | _ => .stuck
theorem s_raiseF {a : Expr} {f : AD} {p pos pos2 : Pos} {O' : List Nat} {k : Nat} (tk : Takes X G.EX) (hc : X.calm = true) (hr : Room k X.A) (T : Own1 X.prog X.K X.mg cn C fld) (ha : PAp X G O [a] f) (s : ∀ i, i ∈ oe → i ∈ O := by decide) (hg : Gl X cn := by rfl) (hdb : (cn == ("__debug__" : Str)) = false := by decide)
    (he : starEach (a :: []) X.env = (false, eval a X.env) :: starEach [] X.env := by rfl) (hpl : (backTo pos (starEach [] X.env)).any (·.1) = false := by rfl) :
    PSp X G Ol O O' (.Raise (some (.Call (.Name cn p) [a] [] pos)) none pos2) (sRaiseF cn fld f) := by
  refine PS.imp (ps_raise1 hc T hr tk ha.pa hdb hg he hpl) fun Dn σ H h => ?_
  obtain ⟨ρ, lr, h⟩ := h
  refine ⟨ρ, lr, ?_⟩
  unfold sRaiseF at h
  cases e : f ρ with
  | stuck => rw [e] at h; exact h
  | err x ρ1 => rw [e] at h; exact fun cls dd H' a b c => h cls dd σ H' a b c
  | ok q =>
    rw [e] at h
    intro vs H1 c r1 rv
    obtain ⟨ds, ρ1⟩ := q
    have rv' : RepAll X.K (Avd G.A O σ) H1 vs ds := rv
    simp only [Out.bind] at h
    split at h
    · rename_i n
      cases rv' with
      | cons hd tl =>
        cases tl
        cases hd
        by_cases hl : n.natAbs.log2 < 1920
        · rw [if_pos hl] at h
          refine ⟨n, rfl, hl, fun d hn => ?_⟩
          have sm : Same H1 (upd H1 d (HO.xd [(fld, V.int n)])) := same_new hn
          exact h (.ref C) (some d) σ _ (Tr.trans (Tr.of_chg (c.trans (Chg.of_same sm))) (Tr.weak s)) ((r1.same sm).weak s) ⟨C, T.gC, rfl, .inr ⟨d, [(fld, V.int n)], rfl, upd_same, show FldR _ _ [(fld, V.int n)] [(fld, D.int n)] from ⟨rfl, Rep.int _, trivial⟩⟩⟩
        · rw [if_neg hl] at h
          exact h.elim
    · exact h.elim
end
end Pl
set_option maxHeartbeats 4000000
namespace L2
open PySem PySem.Spec PyProof.Rows
/-! ### try with clauses of both sorts: plain ones and 'as n' -/
abbrev CTS := Addr → Value → Option Addr → TS
/-- one clause: the class; the slot of its name, if it has one; its suite's term -/
structure Clz where
  c : Value
  as_ : Option Nat
  ts : CTS
/-- the suite's ends where slot i is forgotten behind it -/
def endsAs (i : Option Nat) (D : Ends) : Ends := match i with
  | none => D
  | some i => { nx := fun τ G => D.nx (τ.set i none) G, rt := D.rt, bk := fun τ G => D.bk (τ.set i none) G, ct := fun τ G => D.ct (τ.set i none) G }
def slotAs (i : Option Nat) (a : Addr) (σ : St) : St := match i with
  | none => σ
  | some i => σ.set i (some (.ref a))
def wMix (K : PySem.W.Frag) (m : Nat) (Wo : WX) (D : Ends) : List Clz → WX
  | [] => Wo
  | z :: r => fun cls d σ H => ∃ b, PySem.W.exmOne K cls z.c = some b ∧ (b = true → ∀ a, H a = none → σ.length = m → z.ts a cls d (endsAs z.as_ D) (slotAs z.as_ a σ) H) ∧ (b = false → wMix K m Wo D r cls d σ H)
/-- a clause's name: none, or slot i's -/
inductive NmOk (X : Cx) : Option Str → Option Nat → Prop
  | no : NmOk X none none
  | as_ {n : Str} {i : Nat} (hi : X.N[i]? = some n) (hl : X.env.kindOf n = some .local) : NmOk X (some n) (some i)
inductive MixOk (X : Cx) : List ExceptHandler → List Clz → Prop
  | nil : MixOk X [] []
  | cons {x : Str} {z : Clz} {n : Option Str} {b0 : Stmt} {su : List Stmt} {np p' : Pos} {hs : List ExceptHandler} {l : List Clz} (hc : Names X x z.c) (hn : NmOk X n z.as_)
      (hsu : ∀ (a : Addr) (oe : Obj) (cls : Value) (d : Option Addr) (pn : List (Addr × Obj)), Zc cls d oe → (∃ vs, oe.data = .fields vs) → PSs (X.suite a ((a, oe) :: pn)) (b0 :: su) (z.ts a cls d)) (r : MixOk X hs l) :
      MixOk X (.ExceptHandler (some (.Name x np)) n (b0 :: su) p' :: hs) (z :: l)
section
variable {X : Cx} {body : List Stmt} {h0 : ExceptHandler} {hs : List ExceptHandler} {l : List Clz} {pos : Pos} {tb : WX → TS} {Wo : WX}
theorem ps_try_mix (st : X.stack = X.env :: X.outer) (hf : X.env.frame = some X.env.locals) (hN : X.N.Nodup) (tk : Takes X Wo)
    (hb : ∀ (W : WX) (pn : List (Addr × Obj)) (xe : Value → Shared → Prop), Takes (X.tr pn xe) W → PassesOwn (model X.prog X.w) X.A X.env xe → PSs (X.tr pn xe) body (tb W))
    (hh : MixOk X (h0 :: hs) l) : PS X (.Try body (h0 :: hs) [] [] pos) (fun D σ H => tb (wMix X.K X.N.length Wo D l) D σ H) := by
  refine ⟨fun pins s σ H D I h => ?_⟩
  have okX := I.ok
  have frX : X.A.frames = some (X.env :: X.outer) := by rw [okX.frames, st]
  refine wpAny_Try_except ?_
  refine wpAny_mono ((hb (wMix X.K X.N.length Wo D l) (X.pn ++ pins) (fun e t1 => wpAny (model X.prog X.w) X.A (noteFrame e X.env) (fun _ t2 => wpAny (model X.prog X.w) X.A (setFlight e none) (fun _ t3 =>
    wpAny (model X.prog X.w) X.A (handleBy e X.env (h0 :: hs)) (SP X pins D) X.xe t3) X.xe t2) X.xe t1) (fun u t hx => ?_) PassesOwn.looking).run [] s σ H D (I.toTry _) h) (fun f t hsp => ?_) (fun e t he => he)
  · obtain ⟨a, B, sI, pins', τ, G, cls, d, rfl, JT, nb, up, sky, na, os, ag, w⟩ := hx
    have JX : Inv X pins τ G sI := JT.ofTry okX
    have skyX : Sky B (X.env :: X.outer) a (Zc cls d) X.env.locals t.heap := by rw [← st]; exact sky
    show wpAny (model X.prog X.w) X.A (noteFrame (.ref a) X.env) _ _ _
    refine Sky.land Zc.steady frX hf skyX fun g3 fl3 up3 => ?_
    have J3 : Inv X pins τ G { t with heap := g3 } := JX.landed nb fl3.1 (up.trans up3) os ag
    obtain ⟨o3, v3, e3, z3, d3⟩ := fl3.there
    have notIn : ∀ {q : Heap} {o : Obj} {vs : Array Value}, q.FunFrames B (X.env :: X.outer) → q.get? a = some o → o.data = .fields vs → a ∉ frs (X.env :: X.outer) := fun {q o vs} ff eq dd hm => by
      obtain ⟨_, o2, eq2, hnf⟩ := ff.mem hm
      rw [eq] at eq2; cases eq2
      exact hnf _ dd
    have nfr := notIn fl3.2.2.1 e3 d3
    have nLoc : a ≠ X.env.locals := fun z => nfr (List.mem_filterMap.mpr ⟨X.env, List.mem_cons_self, by rw [hf, z]⟩)
    have nFs : a ∉ X.fs := fun hm => by
      obtain ⟨ev, he, q⟩ := List.mem_filterMap.mp hm
      exact nfr (List.mem_filterMap.mpr ⟨ev, List.mem_cons_of_mem _ he, q⟩)
    have S3 := J3.suite e3 d3 na nLoc nFs
    have go : ∀ {hs' : List ExceptHandler} {l' : List Clz}, MixOk X hs' l' → wMix X.K X.N.length Wo D l' cls d τ G →
        wpAny (model X.prog X.w) X.A (handleBy (.ref a) X.env hs') (SP X pins D) X.xe { t with heap := g3 } := by
      intro hs' l' hk
      induction hk with
      | nil =>
        intro w
        refine wpAny_handleBy_nil ?_
        obtain ⟨k1, k2, k3, oe, vs, T, oT, tl, he, hz, hd, h1, hr⟩ := id fl3
        unfold PySem.passOn
        refine wpAny_bind (wpAny_field he hd h1 ?_)
        rw [if_neg (show ¬ ((Value.ref T == Value.none) = true) from by simp)]
        have fin : wpAny (model X.prog X.w) X.A (setFlight (.ref a) X.env.frame) (fun _ t4 => wpAny (model X.prog X.w) X.A (throw (.ref a) : Sem Flow) (SP X pins D) X.xe t4) X.xe { t with heap := g3 } := by
          rw [hf]
          refine HandSPX.setFlight_upZ fl3 fun g4 hh4 up4 => wpAny_throw (tk _ _ ?_)
          exact ⟨a, B, sI, pins, τ, G, cls, d, rfl, JX, nb, (up.trans up3).trans up4, .inr (.inr (by rw [st]; exact hh4)), na, os, ag, w⟩
        first
          | exact wpAny_bind (wpAny_pure (wpAny_bind fin))
          | exact wpAny_bind fin
      | @cons x z n b0 su np p' hs2 l2 hc hn hsu r ih =>
        intro w
        obtain ⟨b, hb1, yes, no⟩ := w
        refine wpAny_handleBy_cons (codeAny_handlers_test ?_) (by intro q; cases q)
        have LT : PySem.W.Looks (model X.prog X.w) g3 (typeOf (.ref a)) cls := fun A Q E s k q => wpAny_typeOf_ref (k _ _ e3) (by rw [z3.1]; exact q)
        have LM := PySem.W.exm_one (M := model X.prog X.w) (J3.kIn) LT hb1
        have test : ∀ {Q : Value → Shared → Prop} {E : Value → Shared → Prop}, Q z.c { t with heap := g3 } → wpAny (model X.prog X.w) (X.A.mark (some (.ref a))) (eval (.Name x np) X.env) Q E { t with heap := g3 } := fun {Q E} q => by
          obtain ⟨hg, hdbg, hm | ⟨hm, hv, hnn⟩⟩ := hc
          · exact ld_glob (X := X.suite a ((a, o3) :: (X.pn ++ pins))) S3 hg hm q hdbg
          · exact ld_blt (X := X.suite a ((a, o3) :: (X.pn ++ pins))) S3 hg hm hv q hnn hdbg
        refine test (LM.here ?_)
        cases b with
        | false =>
          show wpAny _ X.A (handleBy (.ref a) X.env hs2) _ _ _
          exact ih (no rfl)
        | true =>
          have yes' := yes rfl a na JX.len
          obtain ⟨zc, zi, zt⟩ := z
          cases hn with
          | no =>
            refine codeAny_handlers_suite ?_
            refine HandSPX.lands_againZ fl3 fun g4 fl4 up4 => ?_
            have J4 : Inv X pins τ G { t with heap := g4 } := JX.landed nb fl4.1 ((up.trans up3).trans up4) os ag
            obtain ⟨o4, v4, e4, z4, d4⟩ := fl4.there
            have S4 := J4.suite e4 d4 na nLoc nFs
            refine wpAny_mono ((hsu a o4 cls d (X.pn ++ pins) z4 ⟨_, d4⟩).run [] _ _ G _ S4 yes') (fun f t6 sp => ?_) (fun _ _ z => False.elim z)
            cases f with
            | next => exact let ⟨_, _, S6, q6⟩ := sp; ⟨_, _, S6.unsuite okX, q6⟩
            | brk => exact let ⟨_, _, S6, q6⟩ := sp; ⟨_, _, S6.unsuite okX, q6⟩
            | cont => exact let ⟨_, _, S6, q6⟩ := sp; ⟨_, _, S6.unsuite okX, q6⟩
            | ret u => exact let ⟨_, _, _, S6, r6, q6⟩ := sp; ⟨_, _, _, S6.unsuite okX, r6, q6⟩
          | @as_ n i hi hl =>
            refine codeAny_handlers_suite_as ?_
            refine HandSPX.lands_againZ fl3 fun g4 fl4 up4 => ?_
            have J4 : Inv X pins τ G { t with heap := g4 } := JX.landed nb fl4.1 ((up.trans up3).trans up4) os ag
            obtain ⟨o4, v4, e4, z4, d4⟩ := fl4.there
            have S4 := J4.suite e4 d4 na nLoc nFs
            refine store_ok (X := X.suite a ((a, o4) :: (X.pn ++ pins))) (v := .ref a) S4 hN hi (.inl hl) rfl (fun s5 S5 => ?_) (.inr hl)
            refine wpAny_mono ((hsu a o4 cls d (X.pn ++ pins) z4 ⟨_, d4⟩).run [] s5 _ G _ S5 yes') (fun f t6 sp => ?_) (fun _ _ z => False.elim z)
            have gone : ∀ {τ6 : St} {G6 : Hp} {Q : Shared → Prop}, Inv (X.suite a ((a, o4) :: (X.pn ++ pins))) [] τ6 G6 t6 → (∀ t7, Inv X pins (τ6.set i none) G6 t7 → Q t7) →
                wpAny (model X.prog X.w) X.A (do bindName X.env n .none; unbindBehindTheSuite X.env n p') (fun _ t7 => Q t7) X.xe t6 := fun {τ6 G6 Q} S6 hq => gone_ok (S6.unsuite okX) hN hi hl hq
            cases f with
            | next => exact let ⟨_, _, S6, q6⟩ := sp; gone S6 fun _ J7 => ⟨_, _, J7, q6⟩
            | brk => exact let ⟨_, _, S6, q6⟩ := sp; gone S6 fun _ J7 => ⟨_, _, J7, q6⟩
            | cont => exact let ⟨_, _, S6, q6⟩ := sp; gone S6 fun _ J7 => ⟨_, _, J7, q6⟩
            | ret u => exact let ⟨_, _, _, S6, r6, q6⟩ := sp; gone S6 fun _ J7 => ⟨_, _, _, J7, r6, q6⟩
    exact go hh w
  · cases f with
    | next => exact let ⟨τ, G, JT, q⟩ := hsp; wpAny_execs_nil ⟨τ, G, JT.ofTry okX, q⟩
    | brk => exact let ⟨τ, G, JT, q⟩ := hsp; ⟨τ, G, JT.ofTry okX, q⟩
    | cont => exact let ⟨τ, G, JT, q⟩ := hsp; ⟨τ, G, JT.ofTry okX, q⟩
    | ret u => exact let ⟨v, τ, G, JT, r, q⟩ := hsp; ⟨v, τ, G, JT.ofTry okX, r, q⟩
end
end L2
set_option maxHeartbeats 4000000
namespace Pl
open PySem PySem.Spec L2 PyProof.Rows PySem.SupV
/-! ### try with clauses of both sorts -/
/-- the one field of an error -/
def fldOf (cn fld : Str) (x : Exc) : Option D := if x.cls = cn then (match x.fs with
  | [(f, v)] => if f = fld then some v else none
  | _ => none) else none
theorem fldOf_ok {K : PySem.W.Frag} {mg : Str → Option Value} {cn fld : Str} {C : Addr} {x : Exc} {d : D} {cls : Value} {dd : Option Addr} {H : Hp} (gC : mg cn = some (.ref C)) (h : fldOf cn fld x = some d) (er : ErrR K mg x cls dd H) :
    cls = .ref C ∧ ∃ e v, dd = some e ∧ H e = some (.xd [(fld, v)]) ∧ Rep K (fun _ => True) H v d := by
  obtain ⟨xc, fs⟩ := x
  unfold fldOf at h
  by_cases e : xc = cn
  · subst e
    rw [if_pos rfl] at h
    obtain ⟨C', g1, rfl, q⟩ := er
    have g1' : mg xc = some (.ref C') := g1
    rw [gC] at g1'
    cases g1'
    refine ⟨rfl, ?_⟩
    match fs, h, q with
    | [(f, w)], h, q =>
      have h' : (if f = fld then some w else none) = some d := h
      by_cases ef : f = fld
      · rw [if_pos ef] at h'
        cases h'
        subst ef
        rcases q with ⟨z, _⟩ | ⟨a, vs, rfl, ha, fr⟩
        · cases z
        · match vs, fr with
          | [], fr => exact fr.elim
          | [(f', v)], fr =>
            obtain ⟨e1, e2, _⟩ : f' = f ∧ Rep K (fun _ => True) H v _ ∧ _ := fr
            subst e1
            exact ⟨a, v, rfl, ha, e2⟩
          | _ :: _ :: _, fr => exact fr.2.2.elim
      · rw [if_neg ef] at h'; cases h'
  · rw [if_neg e] at h; cases h
abbrev HdX := (Str → Option Bool) × (SD ⊕ (Exc → Option D))
def tryX (x : Exc) : List HdX → SD
  | [], ρ => .err x ρ
  | h :: r, ρ => match h.1 x.cls with
    | some true => (match h.2 with
      | .inl s => (match s ρ with | .ok p => .ok p | _ => .stuck)
      | .inr g => (match g x with | some d => .ok (.rt d, ρ) | none => .stuck))
    | some false => tryX x r ρ
    | none => .stuck
def sTryX (b : SD) (hs : List HdX) : SD := fun ρ => match b ρ with
  | .ok p => .ok p
  | .err x ρ' => tryX x hs ρ'
  | .stuck => .stuck
/-- a suite that returns something of the error that slot i holds -/
def AsRet (X : Cx) (i : Nat) (su : List Stmt) (g : Exc → Option D) : Prop := ∃ ts : CTS, (∀ (a : Addr) (oe : Obj) (cls : Value) (d : Option Addr) (pn : List (Addr × Obj)), Zc cls d oe → (∃ vs, oe.data = .fields vs) → PSs (X.suite a ((a, oe) :: pn)) su (ts a cls d)) ∧
  ∀ (x : Exc) (cls : Value) (d : Option Addr) (Dn : Ends) (σ : L2.St) (H : Hp) (a : Addr) (dv : D), ErrR X.K X.mg x cls d H → i < σ.length → g x = some dv → (∀ v G, Same H G → Rep X.K (fun _ => True) G v dv → Dn.rt v G) → ts a cls d Dn (σ.set i (some (.ref a))) H
section
variable {X : Cx} {C : Addr} {cn fld n : Str} {i : Nat}
theorem as_fld {np pos pos2 : Pos} (T : Own1 X.prog X.K X.mg cn C fld) (hi : X.N[i]? = some n) (hv : Vis X.env.scope n := by first | exact Or.inl rfl | exact Or.inr (Or.inl rfl) | exact Or.inr (Or.inr rfl)) (hd : (n == ("__debug__" : Str)) = false := by decide) (hcd : (n == ("__classdict__" : Str)) = false := by decide)
    (hb : attributeBase (.Name n np) fld X.env (eval (.Name n np) X.env) = eval (.Name n np) X.env := by rfl) : AsRet X i [.Return (some (.Attribute (.Name n np) fld pos)) pos2] (fldOf cn fld) := by
  refine ⟨fun a cls d => tRet (tFld1 C fld a cls d (tVar i)), fun a oe cls d pn hz hf => pss_one (ps_ret (pe_fld1 T hz hf (pe_var (i := i) (X := X.suite a ((a, oe) :: pn)) hi hv hd hcd) hb)), fun x cls d Dn σ H a dv er hl hg fin => ?_⟩
  obtain ⟨rfl, e, v, rfl, he, rv⟩ := fldOf_ok T.gC hg er
  exact ⟨.ref a, List.getElem?_set_self hl, rfl, rfl, e, v, rfl, he, fin v H (Same.refl H) rv⟩
def pairOf (s : Str) (g : Exc → Option D) : Exc → Option D := fun x => (g x).map fun d => .tup [.str s, d]
theorem as_pair {s : Str} {j k : Nat} {cp np pos tp pos2 : Pos} (T : Own1 X.prog X.K X.mg cn C fld) (hi : X.N[i]? = some n) (hv : Vis X.env.scope n := by first | exact Or.inl rfl | exact Or.inr (Or.inl rfl) | exact Or.inr (Or.inr rfl)) (hd : (n == ("__debug__" : Str)) = false := by decide) (hcd : (n == ("__classdict__" : Str)) = false := by decide)
    (hb : attributeBase (.Name n np) fld X.env (eval (.Name n np) X.env) = eval (.Name n np) X.env := by rfl) : AsRet X i [.Return (some (.Tuple [.Constant (.str s) j cp, .Attribute (.Name n np) fld pos] k tp)) pos2] (pairOf s (fldOf cn fld)) := by
  refine ⟨fun a cls d => tRet (tTup (tCons (tC (.str s)) (tCons (tFld1 C fld a cls d (tVar i)) tNil))), fun a oe cls d pn hz hf => pss_one (ps_ret (pe_tup (pa_cons pe_str (pa_cons (pe_fld1 T hz hf (pe_var (i := i) (X := X.suite a ((a, oe) :: pn)) hi hv hd hcd) hb) pa_nil)))), fun x cls d Dn σ H a dv er hl hg fin => ?_⟩
  unfold pairOf at hg
  cases eg : fldOf cn fld x with
  | none => rw [eg] at hg; cases hg
  | some d0 =>
    rw [eg] at hg
    cases hg
    obtain ⟨rfl, e, v, rfl, he, rv⟩ := fldOf_ok T.gC eg er
    refine ⟨.ref a, List.getElem?_set_self hl, rfl, rfl, e, v, rfl, he, ?_, fun p hp => fin _ _ (same_new hp) (new_tup (.cons (.str s) (.cons rv .nil)) hp)⟩
    show 2 ≤ sizeLine
    rw [sizeLine_eq]
    omega
end
inductive HdsX (X : Cx) {io oe : List Nat} (G : Pc io oe) (Ol oe' O' : List Nat) : List ExceptHandler → List HdX → Prop
  | nil : HdsX X G Ol oe' O' [] []
  | cons {x : Str} {c : Value} {np pos : Pos} {b0 : Stmt} {su : List Stmt} {hs : List ExceptHandler} {l : List HdX} {ck : Str → Option Bool} {s : SD} (hc : Names X x c) (hk : Ck X.K X.mg c ck)
      (hsu : ∀ (a : Addr) (pn : List (Addr × Obj)), PSsp (X.suite a pn) G.hs Ol oe' O' (b0 :: su) s) (r : HdsX X G Ol oe' O' hs l) :
      HdsX X G Ol oe' O' (.ExceptHandler (some (.Name x np)) none (b0 :: su) pos :: hs) ((ck, .inl s) :: l)
  | as_ {x n : Str} {c : Value} {i : Nat} {np pos : Pos} {b0 : Stmt} {su : List Stmt} {hs : List ExceptHandler} {l : List HdX} {ck : Str → Option Bool} {g : Exc → Option D} (hc : Names X x c) (hk : Ck X.K X.mg c ck)
      (hi : X.N[i]? = some n) (hl : X.env.kindOf n = some .local) (hg : AsRet X i (b0 :: su) g) (r : HdsX X G Ol oe' O' hs l) :
      HdsX X G Ol oe' O' (.ExceptHandler (some (.Name x np)) (some n) (b0 :: su) pos :: hs) ((ck, .inr g) :: l)
section
variable {X : Cx} {io oe oe' : List Nat} {G : Pc io oe} {Ol O O' : List Nat} {k : Nat}
theorem hdsX_ok {hs : List ExceptHandler} {l : List HdX} (hio : ∀ i, i ∈ io → i ∈ oe') (h : HdsX X G Ol oe' O' hs l) : ∃ L, MixOk X hs L ∧
    ∀ (Dn : Ends) (x : Exc) (cls : Value) (dd : Option Addr) (σ : L2.St) (H : Hp) (ρ : Lc), LocR X.K G.A oe' H σ ρ → ErrR X.K X.mg x cls dd H → (∀ (σ0 : L2.St) (H0 : Hp) (O0 : List Nat), Tr io O0 σ0 H0 oe' σ H → PostS X G Ol O0 O' σ0 H0 (tryX x l ρ) Dn →
      (∀ i, i ∈ oe → i ∈ oe') → wMix X.K X.N.length G.EX Dn L cls dd σ H) := by
  induction h with
  | nil =>
    refine ⟨[], .nil, fun Dn x cls dd σ H ρ lr er σ0 H0 O0 t h s => ?_⟩
    exact h cls dd σ H (t.trans (Tr.weak s)) (lr.weak s) er
  | @cons y c np pos b0 su hs l ck s hc hk hsu r ih =>
    obtain ⟨L, hL, hw⟩ := ih
    refine ⟨⟨c, none, fun _ _ _ => tS X G.hs Ol oe' O' s⟩ :: L, .cons hc .no (fun a ob cls d pn _ _ => hsu a _) hL, fun Dn x cls dd σ H ρ lr er σ0 H0 O0 t h sb => ?_⟩
    obtain ⟨C, gC, rfl, er2⟩ := er
    cases ek : ck x.cls with
    | none =>
      have h2 : PostS X G Ol O0 O' σ0 H0 (match ck x.cls with | some true => (match s ρ with | .ok p => .ok p | _ => .stuck) | some false => tryX x l ρ | none => .stuck) Dn := h
      rw [ek] at h2
      exact h2.elim
    | some b =>
      have h2 : PostS X G Ol O0 O' σ0 H0 (match ck x.cls with | some true => (match s ρ with | .ok p => .ok p | _ => .stuck) | some false => tryX x l ρ | none => .stuck) Dn := h
      rw [ek] at h2
      refine ⟨b, hk _ _ _ gC ek, fun eb a ha hl => ?_, fun eb => ?_⟩
      · subst eb
        refine ⟨ρ, lr, ?_⟩
        have h3 : PostS X G Ol O0 O' σ0 H0 (match s ρ with | .ok p => .ok p | _ => .stuck) Dn := h2
        cases es : s ρ with
        | ok p =>
          rw [es] at h3
          have h4 := PostS.from t h3
          obtain ⟨fl, ρ2⟩ := p
          cases fl <;> exact h4
        | err z ρ2 => rw [es] at h3; exact h3.elim
        | stuck => rw [es] at h3; exact h3.elim
      · subst eb
        exact hw Dn x (.ref C) dd σ H ρ lr ⟨C, gC, rfl, er2⟩ σ0 H0 O0 t h2 sb
  | @as_ y n c i np pos b0 su hs l ck g hc hk hi hln hg r ih =>
    obtain ⟨L, hL, hw⟩ := ih
    obtain ⟨ts, ht, hq⟩ := hg
    refine ⟨⟨c, some i, ts⟩ :: L, .cons hc (.as_ hi hln) ht hL, fun Dn x cls dd σ H ρ lr er σ0 H0 O0 t h sb => ?_⟩
    have er0 := er
    obtain ⟨C, gC, rfl, er2⟩ := er
    have h2 : PostS X G Ol O0 O' σ0 H0 (match ck x.cls with | some true => (match g x with | some d => .ok (.rt d, ρ) | none => .stuck) | some false => tryX x l ρ | none => .stuck) Dn := h
    cases ek : ck x.cls with
    | none => rw [ek] at h2; exact h2.elim
    | some b =>
      rw [ek] at h2
      refine ⟨b, hk _ _ _ gC ek, fun eb a ha hl => ?_, fun eb => ?_⟩
      · subst eb
        have h3 : PostS X G Ol O0 O' σ0 H0 (match g x with | some d => .ok (.rt d, ρ) | none => .stuck) Dn := h2
        cases eg : g x with
        | none => rw [eg] at h3; exact h3.elim
        | some dv =>
          rw [eg] at h3
          refine hq x _ dd (endsAs (some i) Dn) σ H a dv er0 (by rw [hl]; exact (List.getElem?_eq_some_iff.mp hi).1) eg fun v Gn sm rv => ?_
          exact h3 v σ Gn (t.trans ((Tr.of_chg (Chg.of_same sm)).trans (Tr.weak hio))) ((lr.same sm).weak hio) (rv.keep (Keep.less fun _ _ => trivial))
      · subst eb
        exact hw Dn x (.ref C) dd σ H ρ lr er0 σ0 H0 O0 t h2 sb
/-- try: .. except A: .. except B as e: return .. -/
theorem s_tryX {body : List Stmt} {h0 : ExceptHandler} {hs : List ExceptHandler} {pos : Pos} {f : SD} {l : List HdX} (Wb : BodyCx X G k) (nd : X.N.Nodup)
    (hb : ∀ (pn : List (Addr × Obj)) (xe : Value → Shared → Prop) (W : WX), BodyCx (X.tr pn xe) (G.tr oe' W) k → PSsp (X.tr pn xe) (G.tr oe' W) Ol O O' body f) (hh : HdsX X G Ol oe' O' (h0 :: hs) l)
    (s : ∀ i, i ∈ oe → i ∈ oe' := by decide) (hio : ∀ i, i ∈ io → i ∈ oe' := by decide) (hst : X.stack = X.env :: X.outer := by rfl) (hf : X.env.frame = some X.env.locals := by rfl) :
    PSp X G Ol O O' (.Try body (h0 :: hs) [] [] pos) (sTryX f l) := by
  obtain ⟨L, hL, hw⟩ := hdsX_ok hio hh
  refine PS.imp (ps_try_mix (tb := fun W => tS X (G.tr oe' W) Ol O O' f) hst hf nd Wb.tk (fun W pn xe tk po => hb pn xe W ⟨tk, po, Wb.room, Wb.gd⟩) hL) fun Dn σ H h => ?_
  obtain ⟨ρ, lr, h⟩ := h
  refine ⟨ρ, lr, ?_⟩
  have h1 : PostS X G Ol O O' σ H (match f ρ with | .ok p => .ok p | .err x ρ' => tryX x l ρ' | .stuck => .stuck) Dn := h
  cases ef : f ρ with
  | ok p =>
    rw [ef] at h1
    obtain ⟨fl, ρ2⟩ := p
    cases fl <;> exact h1
  | err x ρ2 =>
    rw [ef] at h1
    exact fun cls dd σ' H' t lr' er => hw Dn x cls dd σ' H' ρ2 lr' er σ H O t h1 s
  | stuck => rw [ef] at h1; exact h1.elim
end
end Pl
set_option maxHeartbeats 4000000
namespace PySem
namespace SupV
open PySem.W PySem.Calls PyProof.Rows PySem.Spec PySem.HandSPX
/-! ### own errors from the head -/
abbrev FnI : Type := Option (Str × Str × Arguments × FuncBody × Scope × Addr × List Str × Addr)
abbrev inA (K : Frag) (cn : Str) : Addr := He.ma K (He.ga K cn) "__init__"
def fnI (K : Frag) (cn : Str) : FnI := match K.lookup (inA K cn) with
  | some ⟨_, _, .func fd, _⟩ => some (fd.name, fd.qualname, fd.params, fd.body, fd.scope, fd.globals, fd.closure.map (·.1), fd.builtins)
  | _ => none
/-- an own error: its class's name, its one field, its __init__ -/
structure InD where
  cn : Str
  fld : Str
  qual : Str
  params : Arguments
  body : List Stmt
  scope : Scope
def InD.val (d : InD) : FnI := some ("__init__", d.qual, d.params, .stmts d.body, d.scope, mainGlobals, ["__class__"], builtinsNs)
def eqV (a b : Option (Option Value)) : Bool := decide (a = b)
def clsB (K : Frag) (C : Addr) : Bool := match K.lookup C with
  | some ⟨.type t, _, .cls cd, sl⟩ => (match cd.mro, sl.toList with
    | .ref C' :: bm, [_, _, _, _, some (.builtin n), _] => decide (t = "type") && (decide (C' = C) && (decide (n = "ValueError.__new__") && (!cd.hasDel && (cd.hasDict && (refsVE bm && eqV (alongIn K "__init__" bm) (some (some VI)))))))
    | _, _ => false)
  | _ => false
theorem clsB_ok {K : Frag} {C : Addr} (h : clsB K C = true) : ∃ nm q N bs bm sn sub ab col dd k0 k1 k2 k3 k5, K.lookup C = some (excClassObj nm q C N bs bm true sn sub ab col dd k0 k1 k2 k3 k5 "ValueError.__new__") ∧ refsVE bm = true ∧ alongIn K "__init__" bm = some (some VI) := by
  unfold clsB at h
  split at h
  · rename_i t dd cd sl e
    split at h
    · rename_i C' bm k0 k1 k2 k3 n k5 em es
      simp only [Bool.and_eq_true, decide_eq_true_eq, Bool.not_eq_true'] at h
      obtain ⟨rfl, rfl, rfl, hdel, hdict, hre, hal⟩ := h
      obtain ⟨nm, bs, mro, ns, qn, hd, sn, sub, ab, col, del⟩ := cd
      dsimp only at em hdel hdict
      subst em hdel hdict
      have esl : sl = #[k0, k1, k2, k3, some (.builtin "ValueError.__new__"), k5] := by
        obtain ⟨l⟩ := sl
        simp only at es
        rw [es]
      subst esl
      exact ⟨nm, qn, ns, bs, bm, sn, sub, ab, col, dd, k0, k1, k2, k3, k5, e, hre, of_decide_eq_true hal⟩
    · cases h
  · cases h
def fileB (K : Frag) (cd : Value) (pf : Str) : Bool := match cd with
  | .ref c => (match K.lookup c with
    | some ⟨_, _, .fields vs, _⟩ => (match (vs[2]? : Option Value) with
      | some (.str f _) => pf == f
      | _ => false)
    | _ => false)
  | _ => false
theorem fileB_ok {K : Frag} {cd : Value} {pf : Str} (h : fileB K cd pf = true) : ∃ (c : Addr) (cc : Value) (od : Option Addr) (vs : Array Value) (cs : Array (Option Value)) (file : Str) (tf : Tok), cd = .ref c ∧ K.lookup c = some ⟨cc, od, .fields vs, cs⟩ ∧ vs[2]? = some (.str file tf) ∧ (pf == file) = true := by
  unfold fileB at h
  split at h
  · rename_i c
    split at h
    · rename_i cc od vs cs e
      split at h
      · rename_i f tf e2
        exact ⟨c, cc, od, vs, cs, f, tf, rfl, e, e2, h⟩
      · cases h
    · cases h
  · cases h
def cellB (K : Frag) (C : Addr) (cl : List (Str × Addr)) : Bool := match cl with
  | [(_, c)] => (match K.lookup c with
    | some ⟨_, _, .cell (some (.ref C')), _⟩ => decide (C' = C)
    | _ => false)
  | _ => false
theorem cellB_ok {K : Frag} {C : Addr} {cl : List (Str × Addr)} (h : cellB K C cl = true) (e : cl.map (·.1) = [("__class__" : Str)]) : ∃ (c : Addr) (oc : Value) (od : Option Addr) (osl : Array (Option Value)), cl = [(("__class__" : Str), c)] ∧ K.lookup c = some ⟨oc, od, .cell (some (.ref C)), osl⟩ := by
  unfold cellB at h
  split at h
  · rename_i x c
    split at h
    · rename_i oc od C' osl e2
      have eC := of_decide_eq_true h
      subst eC
      have ex : x = "__class__" := by simpa using e
      subst ex
      exact ⟨c, oc, od, osl, rfl, e2⟩
    · cases h
  · cases h
def fnB (K : Frag) (C : Addr) (pf : Str) (f : Addr) : Bool := match K.lookup f with
  | some ⟨_, _, .func fd, _⟩ => codeIn K fd.code fd.qualname && (fileB K fd.code pf && (cellB K C fd.closure && decide (fd.defaults = .none)))
  | _ => false
def InD.ok (pf : Str) (K : Frag) (d : InD) : Bool := clsB K (He.ga K d.cn) && (fnB K (He.ga K d.cn) pf (inA K d.cn) && (eqV (nsIn K cStatics "thirdparty.any") (some none) && (eqV (findIn K (.ref (He.ga K d.cn)) "__setattr__") (some (some (.builtin "object.__setattr__"))) &&
  (eqV (findIn K (.ref (He.ga K d.cn)) d.fld) (some none) && (eqV (nsIn K mainGlobals d.cn) (some (some (.ref (He.ga K d.cn)))) && (eqV (findIn K (.ref (He.ga K d.cn)) "__init__") (some (some (.ref (inA K d.cn)))) && (decide (typeIn K (.ref (inA K d.cn)) = some (.type "function")) &&
  (keepIn K (.ref (He.ga K d.cn)) && (decide (subIn K (.ref (He.ga K d.cn)) (.type "BaseException") = some true) && (decide (typeIn K (.ref (He.ga K d.cn)) = some (.type "type")) && (hasDictIn K (He.ga K d.cn) && (eqV (findIn K (.ref (He.ga K d.cn)) "__getattribute__") (some (some (.builtin "BaseException.__getattribute__"))) &&
  (eqV (findIn K (.ref (He.ga K d.cn)) "__getattr__") (some none) && decide (exmOne K (.ref (He.ga K d.cn)) (.ref (He.ga K d.cn)) = some true))))))))))))))
/-- what the text says of the __init__ -/
structure InS (prog : Program) (fld : Str) (params : Arguments) (scope : Scope) : Prop where
  top : (prog.main.scope.names.lookup ("super" : Str)).isSome = false
  par : ∃ ar, (params.posonlyargs ++ params.args).head? = some ar ∧ ar.arg = "self"
  nocell : ∀ y ∈ scope.names, y.2 ≠ .cell
  kself : scope.names.lookup ("self" : Str) = some .local
  kfld : scope.names.lookup fld = some .local
  ksup : scope.names.lookup ("super" : Str) = some .globalImplicit
  kstr : scope.names.lookup ("str" : Str) = some .globalImplicit
  kcls : scope.names.lookup ("__class__" : Str) = some .free
  kfun : scope.kind = .function
  kco : scope.isCoroutine = false
  kgen : scope.isGenerator = false
theorem InD.own {prog : Program} {K : Frag} {h : Heap} {mg : Str → Option Value} {d : InD} {msg : Str} {j : Nat} {p0 p1 ap cp0 bp sp vp kp cp ep q1 q2 q3 q4 : Pos} (X : K.In h) (Gm : h.Ns mainGlobals mg) (hv : fnI K d.cn = d.val) (hok : d.ok prog.main.file K = true) (S : InS prog d.fld d.params d.scope)
    (hb : d.body = [.Expr (.Call (.Attribute (.Call (.Name "super" p0) [] [] p1) "__init__" ap) [.BinOp (.Constant (.str msg) j cp0) .Add (.Call (.Name "str" sp) [.Name d.fld vp] [] kp) bp] [] cp) ep, .Assign [.Attribute (.Name "self" q1) d.fld q2] (.Name d.fld q3) q4])
    {pl : Sem Bool} (hev : ∀ env : Env, eval (.Call (.Attribute (.Call (.Name "super" p0) [] [] p1) "__init__" ap) [.BinOp (.Constant (.str msg) j cp0) .Add (.Call (.Name "str" sp) [.Name d.fld vp] [] kp) bp] [] cp) env = (do
      let ov ← attributeBase (.Call (.Name "super" p0) [] [] p1) "__init__" env (eval (.Call (.Name "super" p0) [] [] p1) env)
      standAt ap.atName
      let (f, first) ← holding [ov] (getMethod ov "__init__" pl)
      callWith cp f first (backTo cp (starEach [.BinOp (.Constant (.str msg) j cp0) .Add (.Call (.Name "str" sp) [.Name d.fld vp] [] kp) bp] env)) []))
    (bind : ∀ (nm q : Str) (bd : FuncBody) (sc : Scope) (g : Addr) (cl : List (Str × Addr)) (kV doc pm : Value) (an : Option Addr) (cdv ct : Value) (b : Addr) (x : Addr) (n : Int) (tn : Tok), bindArgs ⟨nm, q, d.params, bd, sc, g, cl, .none, kV, doc, pm, an, cdv, ct, b⟩ ⟨[.ref x, .int n tn], []⟩ = pure [(("self" : Str), Value.ref x), (d.fld, Value.int n tn)])
    (hf : (d.fld == ("__debug__" : Str)) = false) (hs : (d.fld == ("self" : Str)) = false) (hm : msg.length ≤ 1000) (m0 : (msg.length == 0) = false) (ms : mg "super" = none) (mt : mg "str" = none) : Own1 prog K mg d.cn (He.ga K d.cn) d.fld := by
  unfold InD.ok at hok
  simp only [Bool.and_eq_true] at hok
  obtain ⟨h1, h2, h3, h4, h5, h6, h7, h8, h9, h10, h11, h12, h13, h14, h15⟩ := hok
  unfold fnI at hv
  unfold fnB at h2
  cases e : K.lookup (inA K d.cn) with
  | none => rw [e] at h2; cases h2
  | some o =>
    obtain ⟨oc, od, dt, osl⟩ := o
    rw [e] at h2 hv
    cases dt with
    | func fd =>
      obtain ⟨n1, n2, n3, n4, n5, n6, n7, n8, n9, n10, n11, n12, n13, n14, n15⟩ := fd
      have hv' : (some (n1, n2, n3, n4, n5, n6, n7.map (·.1), n15) : FnI) = d.val := hv
      unfold InD.val at hv'
      simp only [Option.some.injEq, Prod.mk.injEq] at hv'
      obtain ⟨rfl, rfl, rfl, rfl, rfl, rfl, hcl, rfl⟩ := hv'
      have h2' : (codeIn K n13 d.qual && (fileB K n13 prog.main.file && (cellB K (He.ga K d.cn) n7 && decide (n8 = .none)))) = true := h2
      simp only [Bool.and_eq_true, decide_eq_true_eq] at h2'
      obtain ⟨c1, c2, c3, rfl⟩ := h2'
      have T : Txt prog K (He.ga K d.cn) (inA K d.cn) d.fld ⟨"__init__", d.qual, d.params, .stmts d.body, d.scope, mainGlobals, n7, .none, n9, n10, n11, n12, n13, n14, builtinsNs⟩ _ _ :=
        { cls := clsB_ok h1, fn := ⟨_, _, _, e⟩, code := fileB_ok c2, codeIn := c1, cell := cellB_ok c3 hcl, opq := of_decide_eq_true h3, glo := rfl, blt := rfl, top := S.top, body := congrArg FuncBody.stmts hb, par := S.par, nocell := S.nocell,
          kself := S.kself, kfld := S.kfld, ksup := S.ksup, kstr := S.kstr, kcls := S.kcls, kfun := S.kfun, kco := S.kco, kgen := S.kgen, sa := of_decide_eq_true h4, noN := of_decide_eq_true h5 }
      exact Own1.of T (fun L => hev _) (fun s1 x n tn => .of_eq (bind _ _ _ _ _ _ _ _ _ _ _ _ _ _ _ _)) hf hs hm m0 ms mt (mg_of X Gm (of_decide_eq_true h6)) (of_decide_eq_true h7) (of_decide_eq_true h8) h9 (of_decide_eq_true h10) (of_decide_eq_true h11) h12 (of_decide_eq_true h13) (of_decide_eq_true h14) (of_decide_eq_true h15)
    | _ => cases h2
/-! ### the hook with own errors -/
abbrev AlI : Type := He.AlD × List FnI × Bool
def hookI (pf : Str) (n : Nat) (fa : List He.Fa) (fn : List He.DefD) (is : List InD) (ex : PySem.W.Frag → Bool) : PySem.W.Hook where
  α := AlI
  obs := fun s => (He.obsD fa fn (frY s.heap.get? n), is.map (fun d => fnI (frY s.heap.get? n) d.cn), is.all (fun d => d.ok pf (frY s.heap.get? n)) && ex (frY s.heap.get? n))
  val := fun _ => (He.valD fn, is.map InD.val, true)
  says := fun _ h => ∃ K : PySem.W.Frag, K.In h ∧ He.SaysD fa fn K ∧ is.map (fun d => fnI K d.cn) = is.map InD.val ∧ is.all (fun d => d.ok pf K) = true ∧ ex K = true
  of := fun _ _ e => by
    have e3 := Bool.and_eq_true_iff.mp (congrArg (fun z : AlI => z.2.2) e)
    exact ⟨_, He.frG_in, congrArg (fun z : AlI => z.1) e, congrArg (fun z : AlI => z.2.1) e, e3.1, e3.2⟩
  keeps := fun _ _ _ ⟨K, hK, c⟩ k => ⟨K, PySem.W.Frag.In.keeps hK k, c⟩
def obsI (pf : Str) (n : Nat) (fa : List He.Fa) (fn : List He.DefD) (is : List InD) (ex : PySem.W.Frag → Bool) (g : Addr → Option Obj) : AlI := (He.obsD fa fn (frY g n), is.map (fun d => fnI (frY g n) d.cn), is.all (fun d => d.ok pf (frY g n)) && ex (frY g n))
theorem obsI_eq {pf : Str} {n : Nat} {fa : List He.Fa} {fn : List He.DefD} {is : List InD} {ex : PySem.W.Frag → Bool} {g : Addr → Option Obj} {s : Shared} (h : ∀ a, g a = s.heap.get? a) : obsI pf n fa fn is ex g = (hookI pf n fa fn is ex).obs s := by
  have e : g = s.heap.get? := funext h
  rw [e] <;> rfl
theorem isv_at {K : Frag} {is : List InD} (h : is.map (fun d => fnI K d.cn) = is.map InD.val) (j : Nat) {d : InD} (e : is[j]? = some d) : fnI K d.cn = d.val := by
  have z : (is.map fun d => fnI K d.cn)[j]? = (is.map InD.val)[j]? := by rw [h]
  rw [List.getElem?_map, List.getElem?_map, e] at z
  exact Option.some.inj z
theorem isv_ok {K : Frag} {pf : Str} {is : List InD} (h : is.all (fun d => d.ok pf K) = true) (j : Nat) {d : InD} (e : is[j]? = some d) : d.ok pf K = true := List.all_eq_true.mp h d (List.mem_of_getElem? e)
end SupV
end PySem
set_option maxHeartbeats 4000000
namespace Pl
open PySem PySem.Spec
/-! ### evaluation, more -/
def KRF (cn fld : Str) (o : Out (List D × Lc)) : Out (Flow' × Lc) := match o with
  | .ok ([.int n], ρ) => if n.natAbs.log2 < 1920 then .err ⟨cn, [(fld, .int n)]⟩ ρ else .stuck
  | .ok _ => .stuck
  | .err x ρ => .err x ρ
  | .stuck => .stuck
theorem KRF_ok {cn fld : Str} {n : Int} {ρ : Lc} (h : n.natAbs.log2 < 1920) : KRF cn fld (.ok ([.int n], ρ)) = .err ⟨cn, [(fld, .int n)]⟩ ρ := if_pos h
theorem KRF_er {cn fld : Str} {x : Exc} {ρ : Lc} : KRF cn fld (.err x ρ) = .err x ρ := rfl
theorem sRaiseF_e {cn fld : Str} {f : AD} {ρ : Lc} : sRaiseF cn fld f ρ = KRF cn fld (f ρ) := by
  unfold sRaiseF KRF
  cases f ρ with
  | ok p =>
    obtain ⟨ds, ρ'⟩ := p
    match ds with
    | [] => rfl
    | [d] => cases d <;> rfl
    | d :: _ :: _ => cases d <;> rfl
  | err x ρ' => rfl
  | stuck => rfl
def KTX (hs : List HdX) (o : Out (Flow' × Lc)) : Out (Flow' × Lc) := match o with
  | .ok p => .ok p
  | .err x ρ => tryX x hs ρ
  | .stuck => .stuck
theorem KTX_ok {hs : List HdX} {p : Flow' × Lc} : KTX hs (.ok p) = .ok p := rfl
theorem KTX_er {hs : List HdX} {x : Exc} {ρ : Lc} : KTX hs (.err x ρ) = tryX x hs ρ := rfl
theorem sTryX_e {b : SD} {hs : List HdX} {ρ : Lc} : sTryX b hs ρ = KTX hs (b ρ) := by
  unfold sTryX KTX
  cases b ρ <;> rfl
end Pl
set_option maxHeartbeats 0
namespace Q68
open PySem PySem.Spec L2 Pl
abbrev topS (i : Nat) : Stmt := PySem.Challenge.pw_towerback_k68_terms_derived_by_rules.main.body.getD i (.Pass ⟨0, 0, 0, 0⟩)
/-- what the module holds -/
structure Fs (P : Program) (K : PySem.W.Frag) (mg : Str → Option Value) where
  f__law_cup : Addr
  d__law_cup : FuncData
  D__law_cup : FunD K "_law_cup" "_law_cup" (defArgs (topS 31)) (defBody (topS 31)) (defScope (topS 31)) [] [] f__law_cup d__law_cup
  g__law_cup : mg "_law_cup" = some (.ref f__law_cup)
  k__law_cup : PySem.W.keepIn K (.ref f__law_cup) = true
  b__law_cup : Binds K d__law_cup ["_law_script"] []
  f__law_roll : Addr
  d__law_roll : FuncData
  D__law_roll : FunD K "_law_roll" "_law_roll" (defArgs (topS 32)) (defBody (topS 32)) (defScope (topS 32)) [] [] f__law_roll d__law_roll
  g__law_roll : mg "_law_roll" = some (.ref f__law_roll)
  k__law_roll : PySem.W.keepIn K (.ref f__law_roll) = true
  b__law_roll : Binds K d__law_roll ["_law_cup_here", "_law_many"] []
  f__law_some : Addr
  d__law_some : FuncData
  D__law_some : FunD K "_law_some" "_law_some" (defArgs (topS 33)) (defBody (topS 33)) (defScope (topS 33)) [] [] f__law_some d__law_some
  g__law_some : mg "_law_some" = some (.ref f__law_some)
  k__law_some : PySem.W.keepIn K (.ref f__law_some) = true
  b__law_some : Binds K d__law_some ["_law_cup_here", "_law_things"] []
  f__law_drawn : Addr
  d__law_drawn : FuncData
  D__law_drawn : FunD K "_law_drawn" "_law_drawn" (defArgs (topS 37)) (defBody (topS 37)) (defScope (topS 37)) [] [] f__law_drawn d__law_drawn
  g__law_drawn : mg "_law_drawn" = some (.ref f__law_drawn)
  k__law_drawn : PySem.W.keepIn K (.ref f__law_drawn) = true
  b__law_drawn : Binds K d__law_drawn ["_law_cup_here", "_law_deep", "_law_powers", "_law_functions"] []
  f__law_same : Addr
  d__law_same : FuncData
  D__law_same : FunD K "_law_same" "_law_same" (defArgs (topS 42)) (defBody (topS 42)) (defScope (topS 42)) [] [] f__law_same d__law_same
  g__law_same : mg "_law_same" = some (.ref f__law_same)
  k__law_same : PySem.W.keepIn K (.ref f__law_same) = true
  b__law_same : Binds K d__law_same ["_law_one", "_law_other"] []
  f__law_parts : Addr
  d__law_parts : FuncData
  D__law_parts : FunD K "_law_parts" "_law_parts" (defArgs (topS 34)) (defBody (topS 34)) (defScope (topS 34)) [] [] f__law_parts d__law_parts
  g__law_parts : mg "_law_parts" = some (.ref f__law_parts)
  k__law_parts : PySem.W.keepIn K (.ref f__law_parts) = true
  b__law_parts : Binds K d__law_parts ["_law_term"] []
  f__law_height : Addr
  d__law_height : FuncData
  D__law_height : FunD K "_law_height" "_law_height" (defArgs (topS 35)) (defBody (topS 35)) (defScope (topS 35)) [] [] f__law_height d__law_height
  g__law_height : mg "_law_height" = some (.ref f__law_height)
  k__law_height : PySem.W.keepIn K (.ref f__law_height) = true
  b__law_height : Binds K d__law_height ["_law_term"] []
  f__law_count : Addr
  d__law_count : FuncData
  D__law_count : FunD K "_law_count" "_law_count" (defArgs (topS 36)) (defBody (topS 36)) (defScope (topS 36)) [] [] f__law_count d__law_count
  g__law_count : mg "_law_count" = some (.ref f__law_count)
  k__law_count : PySem.W.keepIn K (.ref f__law_count) = true
  b__law_count : Binds K d__law_count ["_law_term"] []
  f_own_parts : Addr
  d_own_parts : FuncData
  D_own_parts : FunD K "own_parts" "own_parts" (defArgs (topS 17)) (defBody (topS 17)) (defScope (topS 17)) [] [] f_own_parts d_own_parts
  g_own_parts : mg "own_parts" = some (.ref f_own_parts)
  k_own_parts : PySem.W.keepIn K (.ref f_own_parts) = true
  b_own_parts : Binds K d_own_parts ["term"] []
  f_level_below : Addr
  d_level_below : FuncData
  D_level_below : FunD K "level_below" "level_below" (defArgs (topS 18)) (defBody (topS 18)) (defScope (topS 18)) [] [] f_level_below d_level_below
  g_level_below : mg "level_below" = some (.ref f_level_below)
  k_level_below : PySem.W.keepIn K (.ref f_level_below) = true
  b_level_below : Binds K d_level_below ["level"] []
  f_is_tuple_of : Addr
  d_is_tuple_of : FuncData
  D_is_tuple_of : FunD K "is_tuple_of" "is_tuple_of" (defArgs (topS 8)) (defBody (topS 8)) (defScope (topS 8)) [] [] f_is_tuple_of d_is_tuple_of
  g_is_tuple_of : mg "is_tuple_of" = some (.ref f_is_tuple_of)
  k_is_tuple_of : PySem.W.keepIn K (.ref f_is_tuple_of) = true
  b_is_tuple_of : Binds K d_is_tuple_of ["value", "low", "high"] []
  f_is_integer : Addr
  d_is_integer : FuncData
  D_is_integer : FunD K "is_integer" "is_integer" (defArgs (topS 6)) (defBody (topS 6)) (defScope (topS 6)) [] [] f_is_integer d_is_integer
  g_is_integer : mg "is_integer" = some (.ref f_is_integer)
  k_is_integer : PySem.W.keepIn K (.ref f_is_integer) = true
  b_is_integer : Binds K d_is_integer ["value"] []
  f_is_whole : Addr
  d_is_whole : FuncData
  D_is_whole : FunD K "is_whole" "is_whole" (defArgs (topS 7)) (defBody (topS 7)) (defScope (topS 7)) [] [] f_is_whole d_is_whole
  g_is_whole : mg "is_whole" = some (.ref f_is_whole)
  k_is_whole : PySem.W.keepIn K (.ref f_is_whole) = true
  b_is_whole : Binds K d_is_whole ["value", "low", "high"] []
  f_has_shape : Addr
  d_has_shape : FuncData
  D_has_shape : FunD K "has_shape" "has_shape" (defArgs (topS 16)) (defBody (topS 16)) (defScope (topS 16)) [] [] f_has_shape d_has_shape
  g_has_shape : mg "has_shape" = some (.ref f_has_shape)
  k_has_shape : PySem.W.keepIn K (.ref f_has_shape) = true
  b_has_shape : Binds K d_has_shape ["value"] []
  f_fits_term : Addr
  d_fits_term : FuncData
  D_fits_term : FunD K "fits_term" "fits_term" (defArgs (topS 19)) (defBody (topS 19)) (defScope (topS 19)) [] [] f_fits_term d_fits_term
  g_fits_term : mg "fits_term" = some (.ref f_fits_term)
  k_fits_term : PySem.W.keepIn K (.ref f_fits_term) = true
  b_fits_term : Binds K d_fits_term ["value", "height", "parts"] []
  f_need_term : Addr
  d_need_term : FuncData
  D_need_term : FunD K "need_term" "need_term" (defArgs (topS 20)) (defBody (topS 20)) (defScope (topS 20)) [] [] f_need_term d_need_term
  g_need_term : mg "need_term" = some (.ref f_need_term)
  k_need_term : PySem.W.keepIn K (.ref f_need_term) = true
  b_need_term : Binds K d_need_term ["value"] []
  f_slope_of_two : Addr
  d_slope_of_two : FuncData
  D_slope_of_two : FunD K "slope_of_two" "slope_of_two" (defArgs (topS 28)) (defBody (topS 28)) (defScope (topS 28)) [] [] f_slope_of_two d_slope_of_two
  g_slope_of_two : mg "slope_of_two" = some (.ref f_slope_of_two)
  k_slope_of_two : PySem.W.keepIn K (.ref f_slope_of_two) = true
  b_slope_of_two : Binds K d_slope_of_two ["term", "first", "second"] []
  f_slope_of_power : Addr
  d_slope_of_power : FuncData
  D_slope_of_power : FunD K "slope_of_power" "slope_of_power" (defArgs (topS 27)) (defBody (topS 27)) (defScope (topS 27)) [] [] f_slope_of_power d_slope_of_power
  g_slope_of_power : mg "slope_of_power" = some (.ref f_slope_of_power)
  k_slope_of_power : PySem.W.keepIn K (.ref f_slope_of_power) = true
  b_slope_of_power : Binds K d_slope_of_power ["term", "inner"] []
  f_slope_term : Addr
  d_slope_term : FuncData
  D_slope_term : FunD K "slope_term" "slope_term" (defArgs (topS 26)) (defBody (topS 26)) (defScope (topS 26)) [] [] f_slope_term d_slope_term
  g_slope_term : mg "slope_term" = some (.ref f_slope_term)
  k_slope_term : PySem.W.keepIn K (.ref f_slope_term) = true
  b_slope_term : Binds K d_slope_term ["term"] []
  f_derived_term : Addr
  d_derived_term : FuncData
  D_derived_term : FunD K "derived_term" "derived_term" (defArgs (topS 29)) (defBody (topS 29)) (defScope (topS 29)) [] [] f_derived_term d_derived_term
  g_derived_term : mg "derived_term" = some (.ref f_derived_term)
  k_derived_term : PySem.W.keepIn K (.ref f_derived_term) = true
  b_derived_term : Binds K d_derived_term ["term"] []
  f__law_derive : Addr
  d__law_derive : FuncData
  D__law_derive : FunD K "_law_derive" "_law_derive" (defArgs (topS 43)) (defBody (topS 43)) (defScope (topS 43)) [] [] f__law_derive d__law_derive
  g__law_derive : mg "_law_derive" = some (.ref f__law_derive)
  k__law_derive : PySem.W.keepIn K (.ref f__law_derive) = true
  b__law_derive : Binds K d__law_derive ["_law_value"] []
  f__law_term_slope : Addr
  d__law_term_slope : FuncData
  D__law_term_slope : FunD K "_law_term_slope" "_law_term_slope" (defArgs (topS 41)) (defBody (topS 41)) (defScope (topS 41)) [] [] f__law_term_slope d__law_term_slope
  g__law_term_slope : mg "_law_term_slope" = some (.ref f__law_term_slope)
  k__law_term_slope : PySem.W.keepIn K (.ref f__law_term_slope) = true
  b__law_term_slope : Binds K d__law_term_slope ["_law_term"] []
  f__law_put : Addr
  d__law_put : FuncData
  D__law_put : FunD K "_law_put" "_law_put" (defArgs (topS 40)) (defBody (topS 40)) (defScope (topS 40)) [] [] f__law_put d__law_put
  g__law_put : mg "_law_put" = some (.ref f__law_put)
  k__law_put : PySem.W.keepIn K (.ref f__law_put) = true
  b__law_put : Binds K d__law_put ["_law_term", "_law_path_here", "_law_value"] []
  f__law_path : Addr
  d__law_path : FuncData
  D__law_path : FunD K "_law_path" "_law_path" (defArgs (topS 39)) (defBody (topS 39)) (defScope (topS 39)) [] [] f__law_path d__law_path
  g__law_path : mg "_law_path" = some (.ref f__law_path)
  k__law_path : PySem.W.keepIn K (.ref f__law_path) = true
  b__law_path : Binds K d__law_path ["_law_cup_here", "_law_term"] []
  f__law_odd : Addr
  d__law_odd : FuncData
  D__law_odd : FunD K "_law_odd" "_law_odd" (defArgs (topS 38)) (defBody (topS 38)) (defScope (topS 38)) [] [] f__law_odd d__law_odd
  g__law_odd : mg "_law_odd" = some (.ref f__law_odd)
  k__law_odd : PySem.W.keepIn K (.ref f__law_odd) = true
  b__law_odd : Binds K d__law_odd ["_law_cup_here"] []
  f_law : Addr
  d_law : FuncData
  D_law : FunD K "law" "law" (defArgs (topS 44)) (defBody (topS 44)) (defScope (topS 44)) [] [] f_law d_law
  g_law : mg "law" = some (.ref f_law)
  k_law : PySem.W.keepIn K (.ref f_law) = true
  b_law : Binds K d_law ["_law_script"] []
  n_abs : mg "abs" = none
  n_all : mg "all" = none
  n_bool : mg "bool" = none
  n_enumerate : mg "enumerate" = none
  n_int : mg "int" = none
  n_isinstance : mg "isinstance" = none
  n_len : mg "len" = none
  n_list : mg "list" = none
  n_range : mg "range" = none
  n_repr : mg "repr" = none
  n_str : mg "str" = none
  n_sum : mg "sum" = none
  n_super : mg "super" = none
  n_tuple : mg "tuple" = none
  c_ALONE : Kd K mg "ALONE" (.tup [(.str "negative"), (.str "power"), (.str "log"), (.str "exp")])
  c_HEIGHT : Kd K mg "HEIGHT" (.int 60)
  c_HIGHEST : Kd K mg "HIGHEST" (.int 16)
  c_LARGEST : Kd K mg "LARGEST" (.int 400)
  c_ONE : Kd K mg "ONE" (.tup [(.str "whole"), (.int 1)])
  c_PAIRS : Kd K mg "PAIRS" (.tup [(.str "plus"), (.str "minus"), (.str "times"), (.str "over")])
  c_PARTS : Kd K mg "PARTS" (.int 20000)
  c_POWERS : Kd K mg "POWERS" (.int 12)
  c_WHOLES : Kd K mg "WHOLES" (.int 1000000)
  c_ZERO : Kd K mg "ZERO" (.tup [(.str "whole"), (.int 0)])
  C_InvalidTerm : Addr
  gC_InvalidTerm : mg "InvalidTerm" = some (.ref C_InvalidTerm)
  e_InvalidTerm : ExcK K mg "InvalidTerm"
  C_TooMany : Addr
  gC_TooMany : mg "TooMany" = some (.ref C_TooMany)
  o_TooMany : SupV.Own1 P K mg "TooMany" C_TooMany "limit"
  m_InvalidTerm_InvalidTerm : PySem.W.exmOne K (.ref C_InvalidTerm) (.ref C_InvalidTerm) = some true
  m_InvalidTerm_TooMany : PySem.W.exmOne K (.ref C_InvalidTerm) (.ref C_TooMany) = some false
  m_TooMany_InvalidTerm : PySem.W.exmOne K (.ref C_TooMany) (.ref C_InvalidTerm) = some false
  m_TooMany_TooMany : PySem.W.exmOne K (.ref C_TooMany) (.ref C_TooMany) = some true
/-! #### _law_cup -/
theorem sc__law_cup : FnScope ["_law_script", "_law_cell"] ["_law_script"] (defScope (topS 31)) := ⟨rfl, rfl, rfl, by decide +kernel, rfl, by decide +kernel, by decide +kernel⟩
def d__law_cup : SD := (sAsg (fN gAbs (aCons (f2 gIx (f2 gAdd (fN gLstOf (aCons (fv 0) aNil)) (fN gLst (aCons (f0 (.int 0)) aNil))) (f0 (.int 0))) aNil)) (gNm 1))
def e__law_cup : AD := (nLst (aCons (fIf (tV (f2 gGe (fv 1) (f2 gPow (f0 (.int 10)) (f0 (.int 18))))) (f2 gDiv (fv 1) (f0 (.int 67))) (f0 (.int 0))) (aCons (f2 gAdd (f2 gMod (fN gInt (aCons (f2 gAdd (f2 gMul (fv 1) (f0 (.int 277))) (f0 (.int 2609))) aNil)) (f0 (.int 2077503167))) (f0 (.int 163))) aNil)))
def F__law_cup : FN := runN 2 d__law_cup e__law_cup
theorem ok__law_cup {P : Program} {w : World} {K : PySem.W.Frag} {mg : Str → Option Value} {base : Heap} (S : Fs P K mg) : FnG P w K mg base (L2.CX P w) 1 S.f__law_cup S.d__law_cup ["_law_script"] (spN K 1 F__law_cup) :=
  dkN S.D__law_cup sc__law_cup rfl rfl fun _ _ _ _ _ _ _ W => ⟨(s_set 1 sc__law_cup.nd (by first | exact Or.inl rfl | exact Or.inr rfl) (p_callB call_abs v_abs (by rfl) S.n_abs (by decide +kernel) (p_cons (p_ix ix_seq v_ix (p_bin op_plus v_plus (p_callTy call_list_of v_lstOf (by rfl) S.n_list (by decide +kernel) (p_cons (p_var 0) p_nil)) (p_lst (p_cons p_int p_nil))) p_int (by intro _ _; rfl)) p_nil))), (n_lst (p_cons (p_ifx (q_cmp op_ge (v_cmp _) (p_var 1) (p_bin op_pow v_pow p_int p_int) (nomark _)) (p_bin op_div v_div (p_var 1) p_int) p_int) (p_cons (p_bin op_plus v_plus (p_bin op_mod v_mod (p_callTy call_int1 v_int (by rfl) S.n_int (by decide +kernel) (p_cons (p_bin op_plus v_plus (p_bin op_times v_times (p_var 1) p_int) p_int) p_nil)) p_int) p_int) p_nil)))⟩
/-! #### _law_roll -/
theorem sc__law_roll : FnScope ["_law_cup_here", "_law_many", "_law_found", "_law_deep"] ["_law_cup_here", "_law_many"] (defScope (topS 32)) := ⟨rfl, rfl, rfl, by decide +kernel, rfl, by decide +kernel, by decide +kernel⟩
def d__law_roll : SD := (sSeq (sIf (tV (f2 gGt (oIx 0 (f0 (.int 0))) (f0 (.int 0)))) (sSeq (sAsg (f2 gMod (fN gInt (aCons (oIx 0 (f0 (.int 0))) aNil)) (fv 1)) (gNm 2))
    (sSeq (sSetI 0 (f2 gDiv (oIx 0 (f0 (.int 0))) (fv 1)) (f0 (.int 0)))
    (sRet (fv 2)))) sNx)
    (sSeq (sSetI 0 (f2 gMod (fN gInt (aCons (f2 gAdd (f2 gMul (oIx 0 (f0 (.int 1))) (f0 (.int 31039))) (f0 (.int 7973))) aNil)) (f0 (.int 2147483543))) (f0 (.int 1)))
    (sSeq (sAsg (f2 gMod (fN gInt (aCons (f2 gMul (oIx 0 (f0 (.int 1))) (f2 gAdd (oIx 0 (f0 (.int 1))) (f0 (.int 229)))) aNil)) (f0 (.int 2147483587))) (gNm 3))
    (sRet (f2 gMod (fN gInt (aCons (f2 gDiv (fv 3) (f0 (.int 821))) aNil)) (fv 1))))))
def F__law_roll : FD := runB 4 [0] d__law_roll
theorem ok__law_roll {P : Program} {w : World} {K : PySem.W.Frag} {mg : Str → Option Value} {base : Heap} (S : Fs P K mg) : FnG P w K mg base (L2.CX P w) 1 S.f__law_roll S.d__law_roll ["_law_cup_here", "_law_many"] (spP K mg [0] 2 F__law_roll) :=
  dk (k := 0) (b := d__law_roll) S.D__law_roll sc__law_roll rfl rfl fun _ _ _ _ _ _ _ W => (s_cons (s_if (O' := [0]) (q_cmp op_gt (v_cmp _) (o_ix 0 p_int) p_int (nomark _)) (s_cons (s_set 2 sc__law_roll.nd (by first | exact Or.inl rfl | exact Or.inr rfl) (p_bin op_mod v_mod (p_callTy call_int1 v_int (by rfl) S.n_int (by decide +kernel) (p_cons (o_ix 0 p_int) p_nil)) (p_var 1)))
    (s_cons (s_setI 0 (p_bin op_div v_div (o_ix 0 p_int) (p_var 1)) p_int)
    (s_one (s_ret (p_var 2))))) s_nil)
    (s_cons (s_setI 0 (p_bin op_mod v_mod (p_callTy call_int1 v_int (by rfl) S.n_int (by decide +kernel) (p_cons (p_bin op_plus v_plus (p_bin op_times v_times (o_ix 0 p_int) p_int) p_int) p_nil)) p_int) p_int)
    (s_cons (s_set 3 sc__law_roll.nd (by first | exact Or.inl rfl | exact Or.inr rfl) (p_bin op_mod v_mod (p_callTy call_int1 v_int (by rfl) S.n_int (by decide +kernel) (p_cons (p_bin op_times v_times (o_ix 0 p_int) (p_bin op_plus v_plus (o_ix 0 p_int) p_int)) p_nil)) p_int))
    (s_one (s_ret (p_bin op_mod v_mod (p_callTy call_int1 v_int (by rfl) S.n_int (by decide +kernel) (p_cons (p_bin op_div v_div (p_var 3) p_int) p_nil)) (p_var 1)))))))
/-! #### _law_some -/
theorem sc__law_some : FnScope ["_law_cup_here", "_law_things"] ["_law_cup_here", "_law_things"] (defScope (topS 33)) := ⟨rfl, rfl, rfl, by decide +kernel, rfl, by decide +kernel, by decide +kernel⟩
def d__law_some : SD := (sRet (f2 gIx (fv 1) (fCallIo 0 F__law_roll (aCons (fN gLen (aCons (fv 1) aNil)) aNil))))
def F__law_some : FD := runB 2 [0] d__law_some
theorem ok__law_some {P : Program} {w : World} {K : PySem.W.Frag} {mg : Str → Option Value} {base : Heap} (S : Fs P K mg) : FnG P w K mg base (L2.CX P w) 2 S.f__law_some S.d__law_some ["_law_cup_here", "_law_things"] (spP K mg [0] 2 F__law_some) :=
  dk (k := 1) (b := d__law_some) S.D__law_some sc__law_some rfl rfl fun _ _ _ _ _ _ _ W => (s_one (s_ret (p_ix ix_seq v_ix (p_var 1) (p_callIo 0 W (FnG.mono (ok__law_roll S) (by decide)) S.g__law_roll S.k__law_roll S.b__law_roll (p_cons (p_callB call_len v_len (by rfl) S.n_len (by decide +kernel) (p_cons (p_var 1) p_nil)) p_nil)) (by intro _ _; rfl))))
/-! #### _law_drawn -/
theorem sc__law_drawn : FnScope ["_law_cup_here", "_law_deep", "_law_powers", "_law_functions", "_law_roll_here", "_law_inner", "_law_sort"] ["_law_cup_here", "_law_deep", "_law_powers", "_law_functions"] (defScope (topS 37)) := ⟨rfl, rfl, rfl, by decide +kernel, rfl, by decide +kernel, by decide +kernel⟩
def d__law_drawn (R : FD) : SD := (sSeq (sAsg (fCallIo 0 F__law_roll (aCons (fIf (tV (f2 gGt (fv 1) (f0 (.int 0)))) (f0 (.int 14)) (f0 (.int 3))) aNil)) (gNm 4))
    (sSeq (sIf (tV (f2 gEq (fv 4) (f0 (.int 0)))) (sRet (fN gTup (aCons (f0 (.str "whole")) (aCons (fCallIo 0 F__law_some (aCons (fN gLst (aCons (f0 (.int 0)) (aCons (f0 (.int 1)) (aCons (f0 (.int 1)) (aCons (f0 (.int 2)) (aCons (f0 (.int 3)) (aCons (f0 (.int 4)) (aCons (f0 (.int 12)) (aCons (f0 (.int 1000000)) aNil))))))))) aNil)) aNil)))) sNx)
    (sSeq (sIf (tV (f2 gLt (fv 4) (f0 (.int 3)))) (sRet (fN gTup (aCons (f0 (.str "x")) aNil))) sNx)
    (sSeq (sAsg (fCallIo 0 R (aCons (f2 gSub (fv 1) (f0 (.int 1))) (aCons (fv 2) (aCons (fv 3) aNil)))) (gNm 5))
    (sSeq (sIf (tV (f2 gEq (fv 4) (f0 (.int 3)))) (sRet (fN gTup (aCons (f0 (.str "negative")) (aCons (fv 5) aNil)))) sNx)
    (sSeq (sIf (tOr' (tV (f2 gEq (fv 4) (f0 (.int 4)))) (tV (f2 gEq (fv 4) (f0 (.int 5))))) (sRet (fN gTup (aCons (f0 (.str "power")) (aCons (fv 5) (aCons (fCallIo 0 F__law_some (aCons (fv 2) aNil)) aNil))))) sNx)
    (sSeq (sIf (tV (f2 gLt (fv 4) (f0 (.int 8)))) (sRet (fN gTup (aCons (fCallIo 0 F__law_some (aCons (fv 3) aNil)) (aCons (fv 5) aNil)))) sNx)
    (sSeq (sAsg (f2 gIx (fN gLst (aCons (f0 (.str "plus")) (aCons (f0 (.str "minus")) (aCons (f0 (.str "times")) (aCons (f0 (.str "over")) (aCons (f0 (.str "plus")) (aCons (f0 (.str "times")) aNil))))))) (f2 gSub (fv 4) (f0 (.int 8)))) (gNm 6))
    (sRet (fN gTup (aCons (fv 6) (aCons (fv 5) (aCons (fCallIo 0 R (aCons (f2 gSub (fv 1) (f0 (.int 1))) (aCons (fv 2) (aCons (fv 3) aNil)))) aNil)))))))))))))
def F__law_drawn : Nat → FD
  | 0 => fun _ => .stuck
  | n + 1 => runB 7 [0] (d__law_drawn (F__law_drawn n))
theorem st__law_drawn {P : Program} {w : World} {K : PySem.W.Frag} {mg : Str → Option Value} {base : Heap} (S : Fs P K mg) (n : Nat) (R : FD) (ih : FnG P w K mg base (L2.CX P w) (2 + n) S.f__law_drawn S.d__law_drawn ["_law_cup_here", "_law_deep", "_law_powers", "_law_functions"] (spP K mg [0] 4 R)) : FnG P w K mg base (L2.CX P w) (2 + n + 1) S.f__law_drawn S.d__law_drawn ["_law_cup_here", "_law_deep", "_law_powers", "_law_functions"] (spP K mg [0] 4 (runB 7 [0] (d__law_drawn R))) :=
  dk (k := 2 + n) (b := d__law_drawn R) S.D__law_drawn sc__law_drawn rfl rfl fun _ _ _ _ _ _ _ W => (s_cons (s_set 4 sc__law_drawn.nd (by first | exact Or.inl rfl | exact Or.inr rfl) (p_callIo 0 W (FnG.mono (ok__law_roll S) (by omega)) S.g__law_roll S.k__law_roll S.b__law_roll (p_cons (p_ifx (q_cmp op_gt (v_cmp _) (p_var 1) p_int (nomark _)) p_int p_int) p_nil)))
    (s_cons (s_if (O' := [0]) (q_cmp (op_eqD (by have h := Room.u64 W; exact h)) v_eq (p_var 4) p_int (nomark _)) (s_one (s_ret (p_tup (p_cons p_str (p_cons (p_callIo 0 W (FnG.mono (ok__law_some S) (by omega)) S.g__law_some S.k__law_some S.b__law_some (p_cons (p_lst (p_cons p_int (p_cons p_int (p_cons p_int (p_cons p_int (p_cons p_int (p_cons p_int (p_cons p_int (p_cons p_int p_nil))))))))) p_nil)) p_nil))))) s_nil)
    (s_cons (s_if (O' := [0]) (q_cmp op_lt (v_cmp _) (p_var 4) p_int (nomark _)) (s_one (s_ret (p_tup (p_cons p_str p_nil)))) s_nil)
    (s_cons (s_set 5 sc__law_drawn.nd (by first | exact Or.inl rfl | exact Or.inr rfl) (p_callIo 0 W ih S.g__law_drawn S.k__law_drawn S.b__law_drawn (p_cons (p_bin op_sub v_sub (p_var 1) p_int) (p_cons (p_var 2) (p_cons (p_var 3) p_nil)))))
    (s_cons (s_if (O' := [0]) (q_cmp (op_eqD (by have h := Room.u64 W; exact h)) v_eq (p_var 4) p_int (nomark _)) (s_one (s_ret (p_tup (p_cons p_str (p_cons (p_var 5) p_nil))))) s_nil)
    (s_cons (s_if (O' := [0]) (w_pt (w_or (q_cmp (op_eqD (by have h := Room.u64 W; exact h)) v_eq (p_var 4) p_int (nomark _)) (w_or1 (q_cmp (op_eqD (by have h := Room.u64 W; exact h)) v_eq (p_var 4) p_int (nomark _))))) (s_one (s_ret (p_tup (p_cons p_str (p_cons (p_var 5) (p_cons (p_callIo 0 W (FnG.mono (ok__law_some S) (by omega)) S.g__law_some S.k__law_some S.b__law_some (p_cons (p_var 2) p_nil)) p_nil)))))) s_nil)
    (s_cons (s_if (O' := [0]) (q_cmp op_lt (v_cmp _) (p_var 4) p_int (nomark _)) (s_one (s_ret (p_tup (p_cons (p_callIo 0 W (FnG.mono (ok__law_some S) (by omega)) S.g__law_some S.k__law_some S.b__law_some (p_cons (p_var 3) p_nil)) (p_cons (p_var 5) p_nil))))) s_nil)
    (s_cons (s_set 6 sc__law_drawn.nd (by first | exact Or.inl rfl | exact Or.inr rfl) (p_ix ix_seq v_ix (p_lst (p_cons p_str (p_cons p_str (p_cons p_str (p_cons p_str (p_cons p_str (p_cons p_str p_nil))))))) (p_bin op_sub v_sub (p_var 4) p_int) (by intro _ _; rfl)))
    (s_one (s_ret (p_tup (p_cons (p_var 6) (p_cons (p_var 5) (p_cons (p_callIo 0 W ih S.g__law_drawn S.k__law_drawn S.b__law_drawn (p_cons (p_bin op_sub v_sub (p_var 1) p_int) (p_cons (p_var 2) (p_cons (p_var 3) p_nil)))) p_nil))))))))))))))
theorem ok__law_drawn {P : Program} {w : World} {K : PySem.W.Frag} {mg : Str → Option Value} {base : Heap} (S : Fs P K mg) : ∀ n : Nat, FnG P w K mg base (L2.CX P w) (2 + n) S.f__law_drawn S.d__law_drawn ["_law_cup_here", "_law_deep", "_law_powers", "_law_functions"] (spP K mg [0] 4 (F__law_drawn n))
  | 0 => fng_stuck rfl
  | n + 1 => st__law_drawn S n _ (ok__law_drawn S n)
/-! #### _law_same -/
theorem sc__law_same : FnScope ["_law_one", "_law_other"] ["_law_one", "_law_other"] (defScope (topS 42)) := ⟨rfl, rfl, rfl, by decide +kernel, rfl, by decide +kernel, by decide +kernel⟩
def d__law_same : SD := (sRet (f2 gEqS (fN gRepr (aCons (fv 0) aNil)) (fN gRepr (aCons (fv 1) aNil))))
def F__law_same : FD := runB 2 [] d__law_same
theorem ok__law_same {P : Program} {w : World} {K : PySem.W.Frag} {mg : Str → Option Value} {base : Heap} (S : Fs P K mg) : FnG P w K mg base (L2.CX P w) 1 S.f__law_same S.d__law_same ["_law_one", "_law_other"] (spP K mg [] 2 F__law_same) :=
  dk (k := 0) (b := d__law_same) S.D__law_same sc__law_same rfl rfl fun _ _ _ _ _ _ _ W => (s_one (s_ret (p_cmp op_eq v_eqS (p_callB (call_reprD (Room.u150 W) (BodyCx.gd W)) v_repr (by rfl) S.n_repr (by decide +kernel) (p_cons (p_var 0) p_nil)) (p_callB (call_reprD (Room.u150 W) (BodyCx.gd W)) v_repr (by rfl) S.n_repr (by decide +kernel) (p_cons (p_var 1) p_nil)) (nomark _))))
/-! #### _law_parts -/
theorem sc__law_parts : FnScope ["_law_term", "_law_part"] ["_law_term"] (defScope (topS 34)) := ⟨rfl, rfl, rfl, by decide +kernel, rfl, by decide +kernel, by decide +kernel⟩
def d__law_parts : SD := (sRet (fN gTupOf (aCons (lstE (compN (iSeq (fSl (fv 0) (oPt (f0 (.int 1))) oNo)) (gNm 1) (tV (fN gIsi (aCons (fv 1) (aCons (f0 (.ty "tuple")) aNil)))) (fv 1) [1])) aNil)))
def F__law_parts : FD := runB 2 [] d__law_parts
theorem ok__law_parts {P : Program} {w : World} {K : PySem.W.Frag} {mg : Str → Option Value} {base : Heap} (S : Fs P K mg) : FnG P w K mg base (L2.CX P w) 1 S.f__law_parts S.d__law_parts ["_law_term"] (spP K mg [] 1 F__law_parts) :=
  dk (k := 0) (b := d__law_parts) S.D__law_parts sc__law_parts rfl rfl fun _ _ _ _ _ _ _ W => (s_one (s_ret (p_callTy call_tuple_of v_tupOf (by rfl) S.n_tuple (by decide +kernel) (p_cons (by exact p_lc (by rfl) sc__law_parts.nd (i_seq (p_sl (p_var 0) (po_pt p_int) po_no)) (blkOk_by (N := ["_law_term", "_law_part"]) (sc := defScope (topS 34)) (own := [("_law_part", 1)]) (by decide +kernel)) (fun _ _ _ _ _ _ => (g_name 1 sc__law_parts.nd (by first | exact Or.inl rfl | exact Or.inr rfl))) (fun _ _ _ _ _ _ => (q_one (q_val (p_callB call_isi v_isi (by rfl) S.n_isinstance (by decide +kernel) (p_cons (p_var 1) (p_cons (p_bty S.n_tuple (by decide +kernel)) p_nil)))))) (fun _ _ _ _ _ _ => (p_var 1))) p_nil))))
/-! #### _law_height -/
theorem sc__law_height : FnScope ["_law_term", "_law_level", "_law_found", "_law_below", "_law_one"] ["_law_term"] (defScope (topS 35)) := ⟨rfl, rfl, rfl, by decide +kernel, rfl, by decide +kernel, by decide +kernel⟩
def d__law_height : SD := (sSeq (sPar 1 2 (aCons (fN gLst (aCons (fv 0) aNil)) (aCons (f0 (.int 0)) aNil)))
    (sSeq (sWhile (tV (f2 gGt (fN gLen (aCons (fv 1) aNil)) (f0 (.int 0)))) (sSeq (sOwn 3 (nLst aNil))
    (sSeq (sFor (iSeq (fv 1)) (gNm 4) (sDrop (oExt 3 (fN gLstOf (aCons (fCall F__law_parts (aCons (fv 4) aNil)) aNil)))))
    (sPar 1 2 (aCons (fv 3) (aCons (f2 gAdd (fv 2) (f0 (.int 1))) aNil))))))
    (sRet (fv 2))))
def F__law_height : FD := runB 5 [] d__law_height
theorem ok__law_height {P : Program} {w : World} {K : PySem.W.Frag} {mg : Str → Option Value} {base : Heap} (S : Fs P K mg) : FnG P w K mg base (L2.CX P w) 2 S.f__law_height S.d__law_height ["_law_term"] (spP K mg [] 1 F__law_height) :=
  dk (k := 1) (b := d__law_height) S.D__law_height sc__law_height rfl rfl fun _ _ _ _ _ _ _ W => (s_cons (s_par 1 2 rfl sc__law_height.nd (p_cons (p_lst (p_cons (p_var 0) p_nil)) (p_cons p_int p_nil)))
    (s_cons (s_while (BodyCx.own W) (q_cmp op_gt (v_cmp _) (p_callB call_len v_len (by rfl) S.n_len (by decide +kernel) (p_cons (p_var 1) p_nil)) p_int (nomark _)) (s_cons (s_own 3 sc__law_height.nd (by first | exact Or.inl rfl | exact Or.inr rfl) (n_lst p_nil))
    (s_cons (s_for (BodyCx.own W) rfl (i_seq (p_var 1)) (g_name 4 sc__law_height.nd (by first | exact Or.inl rfl | exact Or.inr rfl)) (s_one (s_expr (a_ext 3 (p_callTy call_list_of v_lstOf (by rfl) S.n_list (by decide +kernel) (p_cons (p_call W (FnG.mono (ok__law_parts S) (by decide)) S.g__law_parts S.k__law_parts S.b__law_parts (p_cons (p_var 4) p_nil)) p_nil))))))
    (s_weak (P := []) (s_one (s_par 1 2 rfl sc__law_height.nd (p_cons (p_var 3) (p_cons (p_bin op_plus v_plus (p_var 2) p_int) p_nil)))) (by decide)))))
    (s_one (s_ret (p_var 2)))))
/-! #### _law_count -/
theorem sc__law_count : FnScope ["_law_term", "_law_part"] ["_law_term"] (defScope (topS 36)) := ⟨rfl, rfl, rfl, by decide +kernel, rfl, by decide +kernel, by decide +kernel⟩
def d__law_count (R : FD) : SD := (sRet (f2 gAdd (f0 (.int 1)) (fN gSum (aCons (lstE (compN (iSeq (fCall F__law_parts (aCons (fv 0) aNil))) (gNm 1) tYs (fCall R (aCons (fv 1) aNil)) [1])) aNil))))
def F__law_count : Nat → FD
  | 0 => fun _ => .stuck
  | n + 1 => runB 2 [] (d__law_count (F__law_count n))
theorem st__law_count {P : Program} {w : World} {K : PySem.W.Frag} {mg : Str → Option Value} {base : Heap} (S : Fs P K mg) (n : Nat) (R : FD) (ih : FnG P w K mg base (L2.CX P w) (1 + n) S.f__law_count S.d__law_count ["_law_term"] (spP K mg [] 1 R)) : FnG P w K mg base (L2.CX P w) (1 + n + 1) S.f__law_count S.d__law_count ["_law_term"] (spP K mg [] 1 (runB 2 [] (d__law_count R))) :=
  dk (k := 1 + n) (b := d__law_count R) S.D__law_count sc__law_count rfl rfl fun _ _ _ _ _ _ _ W => (s_one (s_ret (p_bin op_plus v_plus p_int (p_callB (cr_sum (by rfl)) v_sum (by rfl) S.n_sum (by decide +kernel) (p_cons (by exact p_lc (by rfl) sc__law_count.nd (i_seq (p_call W (FnG.mono (ok__law_parts S) (by omega)) S.g__law_parts S.k__law_parts S.b__law_parts (p_cons (p_var 0) p_nil))) (blkOk_by (N := ["_law_term", "_law_part"]) (sc := defScope (topS 36)) (own := [("_law_part", 1)]) (by decide +kernel)) (fun _ _ _ _ _ _ => (g_name 1 sc__law_count.nd (by first | exact Or.inl rfl | exact Or.inr rfl))) (fun _ _ _ _ _ _ => q_none) (fun _ _ _ _ _ _ => (p_call (BodyCx.blk W) ih S.g__law_count S.k__law_count S.b__law_count (p_cons (p_var 1) p_nil)))) p_nil)))))
theorem ok__law_count {P : Program} {w : World} {K : PySem.W.Frag} {mg : Str → Option Value} {base : Heap} (S : Fs P K mg) : ∀ n : Nat, FnG P w K mg base (L2.CX P w) (1 + n) S.f__law_count S.d__law_count ["_law_term"] (spP K mg [] 1 (F__law_count n))
  | 0 => fng_stuck rfl
  | n + 1 => st__law_count S n _ (ok__law_count S n)
/-! #### own_parts -/
theorem sc_own_parts : FnScope ["term"] ["term"] (defScope (topS 17)) := ⟨rfl, rfl, rfl, by decide +kernel, rfl, by decide +kernel, by decide +kernel⟩
def d_own_parts : SD := (sSeq (sIf (tV (f2 (gIn false) (f2 gIx (fv 0) (f0 (.int 0))) (f0 (.tup [(.str "plus"), (.str "minus"), (.str "times"), (.str "over")])))) (sRet (fN gTup (aCons (f2 gIx (fv 0) (f0 (.int 1))) (aCons (f2 gIx (fv 0) (f0 (.int 2))) aNil)))) sNx)
    (sRet (fIf (tV (f2 (gIn false) (f2 gIx (fv 0) (f0 (.int 0))) (f0 (.tup [(.str "negative"), (.str "power"), (.str "log"), (.str "exp")])))) (fN gTup (aCons (f2 gIx (fv 0) (f0 (.int 1))) aNil)) (fN gTup aNil))))
def F_own_parts : FD := runB 1 [] d_own_parts
theorem ok_own_parts {P : Program} {w : World} {K : PySem.W.Frag} {mg : Str → Option Value} {base : Heap} (S : Fs P K mg) : FnG P w K mg base (L2.CX P w) 1 S.f_own_parts S.d_own_parts ["term"] (spP K mg [] 1 F_own_parts) :=
  dk (k := 0) (b := d_own_parts) S.D_own_parts sc_own_parts rfl rfl fun _ _ _ _ _ _ _ W => (s_cons (s_if (O' := []) (q_cmp op_in_seq (v_in false) (p_ix ix_seq v_ix (p_var 0) p_int (by intro _ _; rfl)) (p_glob S.c_PAIRS) (by with_unfolding_all rfl)) (s_one (s_ret (p_tup (p_cons (p_ix ix_seq v_ix (p_var 0) p_int (by intro _ _; rfl)) (p_cons (p_ix ix_seq v_ix (p_var 0) p_int (by intro _ _; rfl)) p_nil))))) s_nil)
    (s_one (s_ret (p_ifx (q_cmp op_in_seq (v_in false) (p_ix ix_seq v_ix (p_var 0) p_int (by intro _ _; rfl)) (p_glob S.c_ALONE) (by with_unfolding_all rfl)) (p_tup (p_cons (p_ix ix_seq v_ix (p_var 0) p_int (by intro _ _; rfl)) p_nil)) (p_tup p_nil)))))
/-! #### level_below -/
theorem sc_level_below : FnScope ["level", "term", "part"] ["level"] (defScope (topS 18)) := ⟨rfl, rfl, rfl, by decide +kernel, rfl, by decide +kernel, by decide +kernel⟩
def d_level_below : SD := (sRet (lstE (compN2 (iSeq (fv 0)) (gNm 1) tYs (iSeq (fCall F_own_parts (aCons (fv 1) aNil))) (gNm 2) tYs (fv 2) [1, 2] [2])))
def F_level_below : FD := runB 3 [] d_level_below
theorem ok_level_below {P : Program} {w : World} {K : PySem.W.Frag} {mg : Str → Option Value} {base : Heap} (S : Fs P K mg) : FnG P w K mg base (L2.CX P w) 2 S.f_level_below S.d_level_below ["level"] (spP K mg [] 1 F_level_below) :=
  dk (k := 1) (b := d_level_below) S.D_level_below sc_level_below rfl rfl fun _ _ _ _ _ _ _ W => (s_one (s_ret (by exact p_lc2 [2] (by rfl) sc_level_below.nd (i_seq (p_var 0)) (blkOk_by (N := ["level", "term", "part"]) (sc := defScope (topS 18)) (own := [("term", 1), ("part", 2)]) (by decide +kernel)) (fun _ _ _ _ _ _ => (g_name 1 sc_level_below.nd (by first | exact Or.inl rfl | exact Or.inr rfl))) (fun _ _ _ _ _ _ => q_none) (fun _ _ _ _ _ _ => (i_seq (p_call (BodyCx.blk W) (FnG.mono (ok_own_parts S) (by decide)) S.g_own_parts S.k_own_parts S.b_own_parts (p_cons (p_var 1) p_nil)))) (fun _ _ _ _ _ _ => (g_name 2 sc_level_below.nd (by first | exact Or.inl rfl | exact Or.inr rfl))) (fun _ _ _ _ _ _ => q_none) (fun _ _ _ _ _ _ => (p_var 2)))))
/-! #### is_tuple_of -/
theorem sc_is_tuple_of : FnScope ["value", "low", "high"] ["value", "low", "high"] (defScope (topS 8)) := ⟨rfl, rfl, rfl, by decide +kernel, rfl, by decide +kernel, by decide +kernel⟩
def d_is_tuple_of : SD := (sRet (eAn (fN gIsi (aCons (fv 0) (aCons (f0 (.ty "tuple")) aNil))) (fCh gLe gLe (fv 1) (fN gLen (aCons (fv 0) aNil)) (fv 2))))
def F_is_tuple_of : FD := runB 3 [] d_is_tuple_of
theorem ok_is_tuple_of {P : Program} {w : World} {K : PySem.W.Frag} {mg : Str → Option Value} {base : Heap} (S : Fs P K mg) : FnG P w K mg base (L2.CX P w) 1 S.f_is_tuple_of S.d_is_tuple_of ["value", "low", "high"] (spP K mg [] 3 F_is_tuple_of) :=
  dk (k := 0) (b := d_is_tuple_of) S.D_is_tuple_of sc_is_tuple_of rfl rfl fun _ _ _ _ _ _ _ W => (s_one (s_ret (p_and (p_callB call_isi v_isi (by rfl) S.n_isinstance (by decide +kernel) (p_cons (p_var 0) (p_cons (p_bty S.n_tuple (by decide +kernel)) p_nil))) (p_one (p_ch op_le (v_cmp _) op_le (v_cmp _) (p_var 1) (p_callB call_len v_len (by rfl) S.n_len (by decide +kernel) (p_cons (p_var 0) p_nil)) (p_var 2))))))
/-! #### is_integer -/
theorem sc_is_integer : FnScope ["value"] ["value"] (defScope (topS 6)) := ⟨rfl, rfl, rfl, by decide +kernel, rfl, by decide +kernel, by decide +kernel⟩
def d_is_integer : SD := (sRet (eAn (fN gIsi (aCons (fv 0) (aCons (f0 (.ty "int")) aNil))) (f1 eNt (fN gIsi (aCons (fv 0) (aCons (f0 (.ty "bool")) aNil))))))
def F_is_integer : FD := runB 1 [] d_is_integer
theorem ok_is_integer {P : Program} {w : World} {K : PySem.W.Frag} {mg : Str → Option Value} {base : Heap} (S : Fs P K mg) : FnG P w K mg base (L2.CX P w) 1 S.f_is_integer S.d_is_integer ["value"] (spP K mg [] 1 F_is_integer) :=
  dk (k := 0) (b := d_is_integer) S.D_is_integer sc_is_integer rfl rfl fun _ _ _ _ _ _ _ W => (s_one (s_ret (p_and (p_callB call_isi v_isi (by rfl) S.n_isinstance (by decide +kernel) (p_cons (p_var 0) (p_cons (p_bty S.n_int (by decide +kernel)) p_nil))) (p_one (p_not (p_callB call_isi v_isi (by rfl) S.n_isinstance (by decide +kernel) (p_cons (p_var 0) (p_cons (p_bty S.n_bool (by decide +kernel)) p_nil))))))))
/-! #### is_whole -/
theorem sc_is_whole : FnScope ["value", "low", "high"] ["value", "low", "high"] (defScope (topS 7)) := ⟨rfl, rfl, rfl, by decide +kernel, rfl, by decide +kernel, by decide +kernel⟩
def d_is_whole : SD := (sRet (eAn (fCall F_is_integer (aCons (fv 0) aNil)) (fCh gLe gLe (fv 1) (fv 0) (fv 2))))
def F_is_whole : FD := runB 3 [] d_is_whole
theorem ok_is_whole {P : Program} {w : World} {K : PySem.W.Frag} {mg : Str → Option Value} {base : Heap} (S : Fs P K mg) : FnG P w K mg base (L2.CX P w) 2 S.f_is_whole S.d_is_whole ["value", "low", "high"] (spP K mg [] 3 F_is_whole) :=
  dk (k := 1) (b := d_is_whole) S.D_is_whole sc_is_whole rfl rfl fun _ _ _ _ _ _ _ W => (s_one (s_ret (p_and (p_call W (FnG.mono (ok_is_integer S) (by decide)) S.g_is_integer S.k_is_integer S.b_is_integer (p_cons (p_var 0) p_nil)) (p_one (p_ch op_le (v_cmp _) op_le (v_cmp _) (p_var 1) (p_var 0) (p_var 2))))))
/-! #### has_shape -/
theorem sc_has_shape : FnScope ["value"] ["value"] (defScope (topS 16)) := ⟨rfl, rfl, rfl, by decide +kernel, rfl, by decide +kernel, by decide +kernel⟩
def d_has_shape : SD := (sSeq (sIf (tOr' (tNt (tV (fCall F_is_tuple_of (aCons (fv 0) (aCons (f0 (.int 1)) (aCons (f0 (.int 3)) aNil)))))) (tNt (tV (fN gIsi (aCons (f2 gIx (fv 0) (f0 (.int 0))) (aCons (f0 (.ty "str")) aNil)))))) (sRet (f0 (.bl false))) sNx)
    (sSeq (sIf (tV (f2 gEq (f2 gIx (fv 0) (f0 (.int 0))) (f0 (.str "x")))) (sRet (f2 gEq (fN gLen (aCons (fv 0) aNil)) (f0 (.int 1)))) sNx)
    (sSeq (sIf (tV (f2 gEq (f2 gIx (fv 0) (f0 (.int 0))) (f0 (.str "whole")))) (sRet (eAn (f2 gEq (fN gLen (aCons (fv 0) aNil)) (f0 (.int 2))) (fCall F_is_whole (aCons (f2 gIx (fv 0) (f0 (.int 1))) (aCons (f0 (.int 0)) (aCons (f0 (.int 1000000)) aNil)))))) sNx)
    (sSeq (sIf (tV (f2 gEq (f2 gIx (fv 0) (f0 (.int 0))) (f0 (.str "power")))) (sRet (eAn (f2 gEq (fN gLen (aCons (fv 0) aNil)) (f0 (.int 3))) (fCall F_is_whole (aCons (f2 gIx (fv 0) (f0 (.int 2))) (aCons (f0 (.int 0)) (aCons (f0 (.int 12)) aNil)))))) sNx)
    (sSeq (sIf (tV (f2 (gIn false) (f2 gIx (fv 0) (f0 (.int 0))) (f0 (.tup [(.str "plus"), (.str "minus"), (.str "times"), (.str "over")])))) (sRet (f2 gEq (fN gLen (aCons (fv 0) aNil)) (f0 (.int 3)))) sNx)
    (sRet (eAn (f2 (gIn false) (f2 gIx (fv 0) (f0 (.int 0))) (f0 (.tup [(.str "negative"), (.str "power"), (.str "log"), (.str "exp")]))) (f2 gEq (fN gLen (aCons (fv 0) aNil)) (f0 (.int 2))))))))))
def F_has_shape : FD := runB 1 [] d_has_shape
theorem ok_has_shape {P : Program} {w : World} {K : PySem.W.Frag} {mg : Str → Option Value} {base : Heap} (S : Fs P K mg) : FnG P w K mg base (L2.CX P w) 3 S.f_has_shape S.d_has_shape ["value"] (spP K mg [] 1 F_has_shape) :=
  dk (k := 2) (b := d_has_shape) S.D_has_shape sc_has_shape rfl rfl fun _ _ _ _ _ _ _ W => (s_cons (s_if (O' := []) (w_pt (w_or (q_not (q_val (p_call W (FnG.mono (ok_is_tuple_of S) (by decide)) S.g_is_tuple_of S.k_is_tuple_of S.b_is_tuple_of (p_cons (p_var 0) (p_cons p_int (p_cons p_int p_nil)))))) (w_or1 (q_not (q_val (p_callB call_isi v_isi (by rfl) S.n_isinstance (by decide +kernel) (p_cons (p_ix ix_seq v_ix (p_var 0) p_int (by intro _ _; rfl)) (p_cons (p_bty S.n_str (by decide +kernel)) p_nil)))))))) (s_one (s_ret p_bl)) s_nil)
    (s_cons (s_if (O' := []) (q_cmp (op_eqD (by have h := Room.u64 W; exact h)) v_eq (p_ix ix_seq v_ix (p_var 0) p_int (by intro _ _; rfl)) p_str (nomark _)) (s_one (s_ret (p_cmp (op_eqD (by have h := Room.u64 W; exact h)) v_eq (p_callB call_len v_len (by rfl) S.n_len (by decide +kernel) (p_cons (p_var 0) p_nil)) p_int (nomark _)))) s_nil)
    (s_cons (s_if (O' := []) (q_cmp (op_eqD (by have h := Room.u64 W; exact h)) v_eq (p_ix ix_seq v_ix (p_var 0) p_int (by intro _ _; rfl)) p_str (nomark _)) (s_one (s_ret (p_and (p_cmp (op_eqD (by have h := Room.u64 W; exact h)) v_eq (p_callB call_len v_len (by rfl) S.n_len (by decide +kernel) (p_cons (p_var 0) p_nil)) p_int (nomark _)) (p_one (p_call W (FnG.mono (ok_is_whole S) (by decide)) S.g_is_whole S.k_is_whole S.b_is_whole (p_cons (p_ix ix_seq v_ix (p_var 0) p_int (by intro _ _; rfl)) (p_cons p_int (p_cons (p_glob S.c_WHOLES) p_nil)))))))) s_nil)
    (s_cons (s_if (O' := []) (q_cmp (op_eqD (by have h := Room.u64 W; exact h)) v_eq (p_ix ix_seq v_ix (p_var 0) p_int (by intro _ _; rfl)) p_str (nomark _)) (s_one (s_ret (p_and (p_cmp (op_eqD (by have h := Room.u64 W; exact h)) v_eq (p_callB call_len v_len (by rfl) S.n_len (by decide +kernel) (p_cons (p_var 0) p_nil)) p_int (nomark _)) (p_one (p_call W (FnG.mono (ok_is_whole S) (by decide)) S.g_is_whole S.k_is_whole S.b_is_whole (p_cons (p_ix ix_seq v_ix (p_var 0) p_int (by intro _ _; rfl)) (p_cons p_int (p_cons (p_glob S.c_POWERS) p_nil)))))))) s_nil)
    (s_cons (s_if (O' := []) (q_cmp op_in_seq (v_in false) (p_ix ix_seq v_ix (p_var 0) p_int (by intro _ _; rfl)) (p_glob S.c_PAIRS) (by with_unfolding_all rfl)) (s_one (s_ret (p_cmp (op_eqD (by have h := Room.u64 W; exact h)) v_eq (p_callB call_len v_len (by rfl) S.n_len (by decide +kernel) (p_cons (p_var 0) p_nil)) p_int (nomark _)))) s_nil)
    (s_one (s_ret (p_and (p_cmp op_in_seq (v_in false) (p_ix ix_seq v_ix (p_var 0) p_int (by intro _ _; rfl)) (p_glob S.c_ALONE) (by with_unfolding_all rfl)) (p_one (p_cmp (op_eqD (by have h := Room.u64 W; exact h)) v_eq (p_callB call_len v_len (by rfl) S.n_len (by decide +kernel) (p_cons (p_var 0) p_nil)) p_int (nomark _)))))))))))
/-! #### fits_term -/
theorem sc_fits_term : FnScope ["value", "height", "parts", "level", "count", "turn", "term"] ["value", "height", "parts"] (defScope (topS 19)) := ⟨rfl, rfl, rfl, by decide +kernel, rfl, by decide +kernel, by decide +kernel⟩
def d_fits_term : SD := (sSeq (sPar 3 4 (aCons (fN gLst (aCons (fv 0) aNil)) (aCons (f0 (.int 0)) aNil)))
    (sSeq (sFor (iRn1 (aCons (fv 1) aNil)) (gNm 5) (sSeq (sAsg (f2 gAdd (fv 4) (fN gLen (aCons (fv 3) aNil))) (gNm 4))
    (sSeq (sIf (tOr' (tV (f2 gGt (fv 4) (fv 2))) (tNt (tV (fN gAll (aCons (lstE (compN (iSeq (fv 3)) (gNm 6) tYs (fCall F_has_shape (aCons (fv 6) aNil)) [6])) aNil))))) (sRet (f0 (.bl false))) sNx)
    (sSeq (sAsg (fCall F_level_below (aCons (fv 3) aNil)) (gNm 3))
    (sIf (tV (f2 gEq (fN gLen (aCons (fv 3) aNil)) (f0 (.int 0)))) (sRet (f0 (.bl true))) sNx)))))
    (sRet (f0 (.bl false)))))
def F_fits_term : FD := runB 7 [] d_fits_term
theorem ok_fits_term {P : Program} {w : World} {K : PySem.W.Frag} {mg : Str → Option Value} {base : Heap} (S : Fs P K mg) : FnG P w K mg base (L2.CX P w) 4 S.f_fits_term S.d_fits_term ["value", "height", "parts"] (spP K mg [] 3 F_fits_term) :=
  dk (k := 3) (b := d_fits_term) S.D_fits_term sc_fits_term rfl rfl fun _ _ _ _ _ _ _ W => (s_cons (s_par 3 4 rfl sc_fits_term.nd (p_cons (p_lst (p_cons (p_var 0) p_nil)) (p_cons p_int p_nil)))
    (s_cons (s_for (BodyCx.own W) rfl (i_range1 S.n_range (p_cons (p_var 1) p_nil)) (g_name 5 sc_fits_term.nd (by first | exact Or.inl rfl | exact Or.inr rfl)) (s_cons (s_set 4 sc_fits_term.nd (by first | exact Or.inl rfl | exact Or.inr rfl) (p_bin op_plus v_plus (p_var 4) (p_callB call_len v_len (by rfl) S.n_len (by decide +kernel) (p_cons (p_var 3) p_nil))))
    (s_cons (s_if (O' := []) (w_pt (w_or (q_cmp op_gt (v_cmp _) (p_var 4) (p_var 2) (nomark _)) (w_or1 (q_not (q_val (p_callB (cr_all (by rfl)) v_all (by rfl) S.n_all (by decide +kernel) (p_cons (by exact p_lc (by rfl) sc_fits_term.nd (i_seq (p_var 3)) (blkOk_by (N := ["value", "height", "parts", "level", "count", "turn", "term"]) (sc := defScope (topS 19)) (own := [("term", 6)]) (by decide +kernel)) (fun _ _ _ _ _ _ => (g_name 6 sc_fits_term.nd (by first | exact Or.inl rfl | exact Or.inr rfl))) (fun _ _ _ _ _ _ => q_none) (fun _ _ _ _ _ _ => (p_call (BodyCx.blk W) (FnG.mono (ok_has_shape S) (by decide)) S.g_has_shape S.k_has_shape S.b_has_shape (p_cons (p_var 6) p_nil)))) p_nil))))))) (s_one (s_ret p_bl)) s_nil)
    (s_cons (s_set 3 sc_fits_term.nd (by first | exact Or.inl rfl | exact Or.inr rfl) (p_call W (FnG.mono (ok_level_below S) (by decide)) S.g_level_below S.k_level_below S.b_level_below (p_cons (p_var 3) p_nil)))
    (s_one (s_if (O' := []) (q_cmp (op_eqD (by have h := Room.u64 W; exact h)) v_eq (p_callB call_len v_len (by rfl) S.n_len (by decide +kernel) (p_cons (p_var 3) p_nil)) p_int (nomark _)) (s_one (s_ret p_bl)) s_nil))))))
    (s_one (s_ret p_bl))))
/-! #### need_term -/
theorem sc_need_term : FnScope ["value"] ["value"] (defScope (topS 20)) := ⟨rfl, rfl, rfl, by decide +kernel, rfl, by decide +kernel, by decide +kernel⟩
def d_need_term : SD := (sIf (tNt (tV (fCall F_fits_term (aCons (fv 0) (aCons (f0 (.int 60)) (aCons (f0 (.int 20000)) aNil)))))) (sRaise "InvalidTerm") sNx)
def F_need_term : FD := runB 1 [] d_need_term
theorem ok_need_term {P : Program} {w : World} {K : PySem.W.Frag} {mg : Str → Option Value} {base : Heap} (S : Fs P K mg) : FnG P w K mg base (L2.CX P w) 5 S.f_need_term S.d_need_term ["value"] (spP K mg [] 1 F_need_term) :=
  dk (k := 4) (b := d_need_term) S.D_need_term sc_need_term rfl rfl fun _ _ _ _ _ _ _ W => (s_one (s_if (O' := []) (q_not (q_val (p_call W (FnG.mono (ok_fits_term S) (by decide)) S.g_fits_term S.k_fits_term S.b_fits_term (p_cons (p_var 0) (p_cons (p_glob S.c_HEIGHT) (p_cons (p_glob S.c_PARTS) p_nil)))))) (s_one (s_raise (BodyCx.tk W) rfl S.e_InvalidTerm)) s_nil))
/-! #### slope_of_two -/
theorem sc_slope_of_two : FnScope ["term", "first", "second", "sort", "one", "other", "ahead", "behind"] ["term", "first", "second"] (defScope (topS 28)) := ⟨rfl, rfl, rfl, by decide +kernel, rfl, by decide +kernel, by decide +kernel⟩
def d_slope_of_two : SD := (sSeq (sAsg (fv 0) (gTp 3 (gsCons (gNm 3) (gsCons (gNm 4) (gsCons (gNm 5) gsNil)))))
    (sSeq (sIf (tV (f2 (gIn false) (fv 3) (fN gTup (aCons (f0 (.str "plus")) (aCons (f0 (.str "minus")) aNil))))) (sRet (fN gTup (aCons (fv 3) (aCons (fv 1) (aCons (fv 2) aNil))))) sNx)
    (sSeq (sPar 6 7 (aCons (fN gTup (aCons (f0 (.str "times")) (aCons (fv 1) (aCons (fv 5) aNil)))) (aCons (fN gTup (aCons (f0 (.str "times")) (aCons (fv 4) (aCons (fv 2) aNil)))) aNil)))
    (sSeq (sIf (tV (f2 gEq (fv 3) (f0 (.str "times")))) (sRet (fN gTup (aCons (f0 (.str "plus")) (aCons (fv 6) (aCons (fv 7) aNil))))) sNx)
    (sRet (fN gTup (aCons (f0 (.str "over")) (aCons (fN gTup (aCons (f0 (.str "minus")) (aCons (fv 6) (aCons (fv 7) aNil)))) (aCons (fN gTup (aCons (f0 (.str "power")) (aCons (fv 5) (aCons (f0 (.int 2)) aNil)))) aNil)))))))))
def F_slope_of_two : FD := runB 8 [] d_slope_of_two
theorem ok_slope_of_two {P : Program} {w : World} {K : PySem.W.Frag} {mg : Str → Option Value} {base : Heap} (S : Fs P K mg) : FnG P w K mg base (L2.CX P w) 1 S.f_slope_of_two S.d_slope_of_two ["term", "first", "second"] (spP K mg [] 3 F_slope_of_two) :=
  dk (k := 0) (b := d_slope_of_two) S.D_slope_of_two sc_slope_of_two rfl rfl fun _ _ _ _ _ _ _ W => (s_cons (s_asg (p_var 0) (g_tup (by rfl) (g_cons (g_name 3 sc_slope_of_two.nd (by first | exact Or.inl rfl | exact Or.inr rfl)) (g_cons (g_name 4 sc_slope_of_two.nd (by first | exact Or.inl rfl | exact Or.inr rfl)) (g_cons (g_name 5 sc_slope_of_two.nd (by first | exact Or.inl rfl | exact Or.inr rfl)) g_nil (by decide)) (by decide)) (by decide))))
    (s_cons (s_if (O' := []) (q_cmp op_in_seq (v_in false) (p_var 3) (p_tup (p_cons p_str (p_cons p_str p_nil))) (by with_unfolding_all rfl)) (s_one (s_ret (p_tup (p_cons (p_var 3) (p_cons (p_var 1) (p_cons (p_var 2) p_nil)))))) s_nil)
    (s_cons (s_par 6 7 rfl sc_slope_of_two.nd (p_cons (p_tup (p_cons p_str (p_cons (p_var 1) (p_cons (p_var 5) p_nil)))) (p_cons (p_tup (p_cons p_str (p_cons (p_var 4) (p_cons (p_var 2) p_nil)))) p_nil)))
    (s_cons (s_if (O' := []) (q_cmp (op_eqD (by have h := Room.u64 W; exact h)) v_eq (p_var 3) p_str (nomark _)) (s_one (s_ret (p_tup (p_cons p_str (p_cons (p_var 6) (p_cons (p_var 7) p_nil)))))) s_nil)
    (s_one (s_ret (p_tup (p_cons p_str (p_cons (p_tup (p_cons p_str (p_cons (p_var 6) (p_cons (p_var 7) p_nil)))) (p_cons (p_tup (p_cons p_str (p_cons (p_var 5) (p_cons p_int p_nil)))) p_nil))))))))))
/-! #### slope_of_power -/
theorem sc_slope_of_power : FnScope ["term", "inner", "base", "power"] ["term", "inner"] (defScope (topS 27)) := ⟨rfl, rfl, rfl, by decide +kernel, rfl, by decide +kernel, by decide +kernel⟩
def d_slope_of_power : SD := (sSeq (sPar 2 3 (aCons (f2 gIx (fv 0) (f0 (.int 1))) (aCons (f2 gIx (fv 0) (f0 (.int 2))) aNil)))
    (sSeq (sIf (tV (f2 gEq (fv 3) (f0 (.int 0)))) (sRet (f0 (.tup [(.str "whole"), (.int 0)]))) sNx)
    (sRet (fN gTup (aCons (f0 (.str "times")) (aCons (fN gTup (aCons (f0 (.str "times")) (aCons (fN gTup (aCons (f0 (.str "whole")) (aCons (fv 3) aNil))) (aCons (fN gTup (aCons (f0 (.str "power")) (aCons (fv 2) (aCons (f2 gSub (fv 3) (f0 (.int 1))) aNil)))) aNil)))) (aCons (fv 1) aNil)))))))
def F_slope_of_power : FD := runB 4 [] d_slope_of_power
theorem ok_slope_of_power {P : Program} {w : World} {K : PySem.W.Frag} {mg : Str → Option Value} {base : Heap} (S : Fs P K mg) : FnG P w K mg base (L2.CX P w) 1 S.f_slope_of_power S.d_slope_of_power ["term", "inner"] (spP K mg [] 2 F_slope_of_power) :=
  dk (k := 0) (b := d_slope_of_power) S.D_slope_of_power sc_slope_of_power rfl rfl fun _ _ _ _ _ _ _ W => (s_cons (s_par 2 3 rfl sc_slope_of_power.nd (p_cons (p_ix ix_seq v_ix (p_var 0) p_int (by intro _ _; rfl)) (p_cons (p_ix ix_seq v_ix (p_var 0) p_int (by intro _ _; rfl)) p_nil)))
    (s_cons (s_if (O' := []) (q_cmp (op_eqD (by have h := Room.u64 W; exact h)) v_eq (p_var 3) p_int (nomark _)) (s_one (s_ret (p_glob S.c_ZERO))) s_nil)
    (s_one (s_ret (p_tup (p_cons p_str (p_cons (p_tup (p_cons p_str (p_cons (p_tup (p_cons p_str (p_cons (p_var 3) p_nil))) (p_cons (p_tup (p_cons p_str (p_cons (p_var 2) (p_cons (p_bin op_sub v_sub (p_var 3) p_int) p_nil)))) p_nil)))) (p_cons (p_var 1) p_nil))))))))
/-! #### slope_term -/
theorem sc_slope_term : FnScope ["term", "sort", "inner"] ["term"] (defScope (topS 26)) := ⟨rfl, rfl, rfl, by decide +kernel, rfl, by decide +kernel, by decide +kernel⟩
def d_slope_term (R : FD) : SD := (sSeq (sAsg (f2 gIx (fv 0) (f0 (.int 0))) (gNm 1))
    (sSeq (sIf (tV (f2 (gIn false) (fv 1) (fN gTup (aCons (f0 (.str "whole")) (aCons (f0 (.str "x")) aNil))))) (sRet (fIf (tV (f2 gEq (fv 1) (f0 (.str "x")))) (f0 (.tup [(.str "whole"), (.int 1)])) (f0 (.tup [(.str "whole"), (.int 0)])))) sNx)
    (sSeq (sAsg (fCall R (aCons (f2 gIx (fv 0) (f0 (.int 1))) aNil)) (gNm 2))
    (sSeq (sIf (tV (f2 gEq (fv 1) (f0 (.str "negative")))) (sRet (fN gTup (aCons (f0 (.str "negative")) (aCons (fv 2) aNil)))) sNx)
    (sSeq (sIf (tV (f2 gEq (fv 1) (f0 (.str "power")))) (sRet (fCall F_slope_of_power (aCons (fv 0) (aCons (fv 2) aNil)))) sNx)
    (sSeq (sIf (tV (f2 gEq (fv 1) (f0 (.str "log")))) (sRet (fN gTup (aCons (f0 (.str "over")) (aCons (fv 2) (aCons (f2 gIx (fv 0) (f0 (.int 1))) aNil))))) sNx)
    (sSeq (sIf (tV (f2 gEq (fv 1) (f0 (.str "exp")))) (sRet (fN gTup (aCons (f0 (.str "times")) (aCons (fv 2) (aCons (fv 0) aNil))))) sNx)
    (sRet (fCall F_slope_of_two (aCons (fv 0) (aCons (fv 2) (aCons (fCall R (aCons (f2 gIx (fv 0) (f0 (.int 2))) aNil)) aNil))))))))))))
def F_slope_term : Nat → FD
  | 0 => fun _ => .stuck
  | n + 1 => runB 3 [] (d_slope_term (F_slope_term n))
theorem st_slope_term {P : Program} {w : World} {K : PySem.W.Frag} {mg : Str → Option Value} {base : Heap} (S : Fs P K mg) (n : Nat) (R : FD) (ih : FnG P w K mg base (L2.CX P w) (1 + n) S.f_slope_term S.d_slope_term ["term"] (spP K mg [] 1 R)) : FnG P w K mg base (L2.CX P w) (1 + n + 1) S.f_slope_term S.d_slope_term ["term"] (spP K mg [] 1 (runB 3 [] (d_slope_term R))) :=
  dk (k := 1 + n) (b := d_slope_term R) S.D_slope_term sc_slope_term rfl rfl fun _ _ _ _ _ _ _ W => (s_cons (s_set 1 sc_slope_term.nd (by first | exact Or.inl rfl | exact Or.inr rfl) (p_ix ix_seq v_ix (p_var 0) p_int (by intro _ _; rfl)))
    (s_cons (s_if (O' := []) (q_cmp op_in_seq (v_in false) (p_var 1) (p_tup (p_cons p_str (p_cons p_str p_nil))) (by with_unfolding_all rfl)) (s_one (s_ret (p_ifx (q_cmp (op_eqD (by have h := Room.u64 W; exact h)) v_eq (p_var 1) p_str (nomark _)) (p_glob S.c_ONE) (p_glob S.c_ZERO)))) s_nil)
    (s_cons (s_set 2 sc_slope_term.nd (by first | exact Or.inl rfl | exact Or.inr rfl) (p_call W ih S.g_slope_term S.k_slope_term S.b_slope_term (p_cons (p_ix ix_seq v_ix (p_var 0) p_int (by intro _ _; rfl)) p_nil)))
    (s_cons (s_if (O' := []) (q_cmp (op_eqD (by have h := Room.u64 W; exact h)) v_eq (p_var 1) p_str (nomark _)) (s_one (s_ret (p_tup (p_cons p_str (p_cons (p_var 2) p_nil))))) s_nil)
    (s_cons (s_if (O' := []) (q_cmp (op_eqD (by have h := Room.u64 W; exact h)) v_eq (p_var 1) p_str (nomark _)) (s_one (s_ret (p_call W (FnG.mono (ok_slope_of_power S) (by omega)) S.g_slope_of_power S.k_slope_of_power S.b_slope_of_power (p_cons (p_var 0) (p_cons (p_var 2) p_nil))))) s_nil)
    (s_cons (s_if (O' := []) (q_cmp (op_eqD (by have h := Room.u64 W; exact h)) v_eq (p_var 1) p_str (nomark _)) (s_one (s_ret (p_tup (p_cons p_str (p_cons (p_var 2) (p_cons (p_ix ix_seq v_ix (p_var 0) p_int (by intro _ _; rfl)) p_nil)))))) s_nil)
    (s_cons (s_if (O' := []) (q_cmp (op_eqD (by have h := Room.u64 W; exact h)) v_eq (p_var 1) p_str (nomark _)) (s_one (s_ret (p_tup (p_cons p_str (p_cons (p_var 2) (p_cons (p_var 0) p_nil)))))) s_nil)
    (s_one (s_ret (p_call W (FnG.mono (ok_slope_of_two S) (by omega)) S.g_slope_of_two S.k_slope_of_two S.b_slope_of_two (p_cons (p_var 0) (p_cons (p_var 2) (p_cons (p_call W ih S.g_slope_term S.k_slope_term S.b_slope_term (p_cons (p_ix ix_seq v_ix (p_var 0) p_int (by intro _ _; rfl)) p_nil)) p_nil)))))))))))))
theorem ok_slope_term {P : Program} {w : World} {K : PySem.W.Frag} {mg : Str → Option Value} {base : Heap} (S : Fs P K mg) : ∀ n : Nat, FnG P w K mg base (L2.CX P w) (1 + n) S.f_slope_term S.d_slope_term ["term"] (spP K mg [] 1 (F_slope_term n))
  | 0 => fng_stuck rfl
  | n + 1 => st_slope_term S n _ (ok_slope_term S n)
/-! #### derived_term -/
theorem sc_derived_term : FnScope ["term"] ["term"] (defScope (topS 29)) := ⟨rfl, rfl, rfl, by decide +kernel, rfl, by decide +kernel, by decide +kernel⟩
def d_derived_term : SD := (sSeq (sDrop (fCall F_need_term (aCons (fv 0) aNil)))
    (sSeq (sIf (tNt (tV (fCall F_fits_term (aCons (fv 0) (aCons (f0 (.int 16)) (aCons (f0 (.int 20000)) aNil)))))) (sRaiseF "TooMany" "limit" (aCons (f0 (.int 16)) aNil)) sNx)
    (sSeq (sIf (tNt (tV (fCall F_fits_term (aCons (fv 0) (aCons (f0 (.int 16)) (aCons (f0 (.int 400)) aNil)))))) (sRaiseF "TooMany" "limit" (aCons (f0 (.int 400)) aNil)) sNx)
    (sRet (fCall (F_slope_term 100) (aCons (fv 0) aNil))))))
def F_derived_term : FD := runB 1 [] d_derived_term
theorem ok_derived_term {P : Program} {w : World} {K : PySem.W.Frag} {mg : Str → Option Value} {base : Heap} (S : Fs P K mg) : FnG P w K mg base (L2.CX P w) 102 S.f_derived_term S.d_derived_term ["term"] (spP K mg [] 1 F_derived_term) :=
  dk (k := 101) (b := d_derived_term) S.D_derived_term sc_derived_term rfl rfl fun _ _ _ _ _ _ _ W => (s_cons (s_expr (p_call W (FnG.mono (ok_need_term S) (by decide)) S.g_need_term S.k_need_term S.b_need_term (p_cons (p_var 0) p_nil)))
    (s_cons (s_if (O' := []) (q_not (q_val (p_call W (FnG.mono (ok_fits_term S) (by decide)) S.g_fits_term S.k_fits_term S.b_fits_term (p_cons (p_var 0) (p_cons (p_glob S.c_HIGHEST) (p_cons (p_glob S.c_PARTS) p_nil)))))) (s_one (s_raiseF (BodyCx.tk W) rfl (BodyCx.room W) S.o_TooMany (p_cons (p_glob S.c_HIGHEST) p_nil))) s_nil)
    (s_cons (s_if (O' := []) (q_not (q_val (p_call W (FnG.mono (ok_fits_term S) (by decide)) S.g_fits_term S.k_fits_term S.b_fits_term (p_cons (p_var 0) (p_cons (p_glob S.c_HIGHEST) (p_cons (p_glob S.c_LARGEST) p_nil)))))) (s_one (s_raiseF (BodyCx.tk W) rfl (BodyCx.room W) S.o_TooMany (p_cons (p_glob S.c_LARGEST) p_nil))) s_nil)
    (s_one (s_ret (p_call W (FnG.mono (ok_slope_term S 100) (by decide)) S.g_slope_term S.k_slope_term S.b_slope_term (p_cons (p_var 0) p_nil)))))))
/-! #### _law_derive -/
theorem sc__law_derive : FnScope ["_law_value", "e"] ["_law_value"] (defScope (topS 43)) := ⟨rfl, rfl, rfl, by decide +kernel, rfl, by decide +kernel, by decide +kernel⟩
def d__law_derive : SD := (sTryX (sRet (fN gTup (aCons (f0 (.str "term")) (aCons (fCall F_derived_term (aCons (fv 0) aNil)) aNil)))) [(ckT [("InvalidTerm", true), ("TooMany", false)], .inl (sRet (fN gTup (aCons (f0 (.str "InvalidTerm")) (aCons (f0 (.int 0)) aNil))))), (ckT [("InvalidTerm", false), ("TooMany", true)], .inr (pairOf "TooMany" (fldOf "TooMany" "limit")))])
def F__law_derive : FD := runB 2 [] d__law_derive
theorem ok__law_derive {P : Program} {w : World} {K : PySem.W.Frag} {mg : Str → Option Value} {base : Heap} (S : Fs P K mg) : FnG P w K mg base (L2.CX P w) 103 S.f__law_derive S.d__law_derive ["_law_value"] (spP K mg [] 1 F__law_derive) :=
  dk (k := 102) (b := d__law_derive) S.D__law_derive sc__law_derive rfl rfl fun _ _ _ _ _ _ _ W => (s_one (s_tryX (oe' := []) W sc__law_derive.nd (fun _ _ _ Wt => (s_one (s_ret (p_tup (p_cons p_str (p_cons (p_call Wt (FnG.mono (ok_derived_term S) (by decide)) S.g_derived_term S.k_derived_term S.b_derived_term (p_cons (p_var 0) p_nil)) p_nil)))))) (HdsX.cons ⟨rfl, by decide, .inl S.gC_InvalidTerm⟩ (ck_cons S.gC_InvalidTerm S.m_InvalidTerm_InvalidTerm (ck_cons S.gC_TooMany S.m_TooMany_InvalidTerm ck_nil)) (fun _ _ => (s_one (s_ret (p_tup (p_cons p_str (p_cons p_int p_nil)))))) (HdsX.as_ (i := 1) ⟨rfl, by decide, .inl S.gC_TooMany⟩ (ck_cons S.gC_InvalidTerm S.m_InvalidTerm_TooMany (ck_cons S.gC_TooMany S.m_TooMany_TooMany ck_nil)) rfl rfl (as_pair S.o_TooMany rfl) HdsX.nil))))
/-! #### _law_term_slope -/
theorem sc__law_term_slope : FnScope ["_law_term", "_law_sort", "_law_one", "_law_first", "_law_other", "_law_second"] ["_law_term"] (defScope (topS 41)) := ⟨rfl, rfl, rfl, by decide +kernel, rfl, by decide +kernel, by decide +kernel⟩
def d__law_term_slope (R : FD) : SD := (sSeq (sAsg (f2 gIx (fv 0) (f0 (.int 0))) (gNm 1))
    (sSeq (sIf (tOr' (tV (f2 gEq (fv 1) (f0 (.str "whole")))) (tOr' (tV (f2 gEq (fv 1) (f0 (.str "x")))) (tAn (tV (f2 gEq (fv 1) (f0 (.str "power")))) (tV (f2 gEq (f2 gIx (fv 0) (f0 (.int 2))) (f0 (.int 0))))))) (sRet (fN gTup (aCons (f0 (.str "whole")) (aCons (fIf (tV (f2 gEq (fv 1) (f0 (.str "x")))) (f0 (.int 1)) (f0 (.int 0))) aNil)))) sNx)
    (sSeq (sPar 2 3 (aCons (f2 gIx (fv 0) (f0 (.int 1))) (aCons (fCall R (aCons (f2 gIx (fv 0) (f0 (.int 1))) aNil)) aNil)))
    (sSeq (sIf (tV (f2 gEq (fv 1) (f0 (.str "negative")))) (sRet (fN gTup (aCons (f0 (.str "negative")) (aCons (fv 3) aNil)))) sNx)
    (sSeq (sIf (tV (f2 gEq (fv 1) (f0 (.str "log")))) (sRet (fN gTup (aCons (f0 (.str "over")) (aCons (fv 3) (aCons (fv 2) aNil))))) sNx)
    (sSeq (sIf (tV (f2 gEq (fv 1) (f0 (.str "exp")))) (sRet (fN gTup (aCons (f0 (.str "times")) (aCons (fv 3) (aCons (fN gTup (aCons (f0 (.str "exp")) (aCons (fv 2) aNil))) aNil))))) sNx)
    (sSeq (sIf (tV (f2 gEq (fv 1) (f0 (.str "power")))) (sRet (fN gTup (aCons (f0 (.str "times")) (aCons (fN gTup (aCons (f0 (.str "times")) (aCons (fN gTup (aCons (f0 (.str "whole")) (aCons (f2 gIx (fv 0) (f0 (.int 2))) aNil))) (aCons (fN gTup (aCons (f0 (.str "power")) (aCons (fv 2) (aCons (f2 gSub (f2 gIx (fv 0) (f0 (.int 2))) (f0 (.int 1))) aNil)))) aNil)))) (aCons (fv 3) aNil))))) sNx)
    (sSeq (sPar 4 5 (aCons (f2 gIx (fv 0) (f0 (.int 2))) (aCons (fCall R (aCons (f2 gIx (fv 0) (f0 (.int 2))) aNil)) aNil)))
    (sSeq (sIf (tOr' (tV (f2 gEq (fv 1) (f0 (.str "plus")))) (tV (f2 gEq (fv 1) (f0 (.str "minus"))))) (sRet (fN gTup (aCons (fv 1) (aCons (fv 3) (aCons (fv 5) aNil))))) sNx)
    (sSeq (sIf (tV (f2 gEq (fv 1) (f0 (.str "times")))) (sRet (fN gTup (aCons (f0 (.str "plus")) (aCons (fN gTup (aCons (f0 (.str "times")) (aCons (fv 3) (aCons (fv 4) aNil)))) (aCons (fN gTup (aCons (f0 (.str "times")) (aCons (fv 2) (aCons (fv 5) aNil)))) aNil))))) sNx)
    (sRet (fN gTup (aCons (f0 (.str "over")) (aCons (fN gTup (aCons (f0 (.str "minus")) (aCons (fN gTup (aCons (f0 (.str "times")) (aCons (fv 3) (aCons (fv 4) aNil)))) (aCons (fN gTup (aCons (f0 (.str "times")) (aCons (fv 2) (aCons (fv 5) aNil)))) aNil)))) (aCons (fN gTup (aCons (f0 (.str "power")) (aCons (fv 4) (aCons (f0 (.int 2)) aNil)))) aNil)))))))))))))))
def F__law_term_slope : Nat → FD
  | 0 => fun _ => .stuck
  | n + 1 => runB 6 [] (d__law_term_slope (F__law_term_slope n))
theorem st__law_term_slope {P : Program} {w : World} {K : PySem.W.Frag} {mg : Str → Option Value} {base : Heap} (S : Fs P K mg) (n : Nat) (R : FD) (ih : FnG P w K mg base (L2.CX P w) (0 + n) S.f__law_term_slope S.d__law_term_slope ["_law_term"] (spP K mg [] 1 R)) : FnG P w K mg base (L2.CX P w) (0 + n + 1) S.f__law_term_slope S.d__law_term_slope ["_law_term"] (spP K mg [] 1 (runB 6 [] (d__law_term_slope R))) :=
  dk (k := 0 + n) (b := d__law_term_slope R) S.D__law_term_slope sc__law_term_slope rfl rfl fun _ _ _ _ _ _ _ W => (s_cons (s_set 1 sc__law_term_slope.nd (by first | exact Or.inl rfl | exact Or.inr rfl) (p_ix ix_seq v_ix (p_var 0) p_int (by intro _ _; rfl)))
    (s_cons (s_if (O' := []) (w_pt (w_or (q_cmp (op_eqD (by have h := Room.u64 W; exact h)) v_eq (p_var 1) p_str (nomark _)) (w_or (q_cmp (op_eqD (by have h := Room.u64 W; exact h)) v_eq (p_var 1) p_str (nomark _)) (w_or1 (w_pt (w_and (q_cmp (op_eqD (by have h := Room.u64 W; exact h)) v_eq (p_var 1) p_str (nomark _)) (w_and1 (q_cmp (op_eqD (by have h := Room.u64 W; exact h)) v_eq (p_ix ix_seq v_ix (p_var 0) p_int (by intro _ _; rfl)) p_int (nomark _))))))))) (s_one (s_ret (p_tup (p_cons p_str (p_cons (p_ifx (q_cmp (op_eqD (by have h := Room.u64 W; exact h)) v_eq (p_var 1) p_str (nomark _)) p_int p_int) p_nil))))) s_nil)
    (s_cons (s_par 2 3 rfl sc__law_term_slope.nd (p_cons (p_ix ix_seq v_ix (p_var 0) p_int (by intro _ _; rfl)) (p_cons (p_call W ih S.g__law_term_slope S.k__law_term_slope S.b__law_term_slope (p_cons (p_ix ix_seq v_ix (p_var 0) p_int (by intro _ _; rfl)) p_nil)) p_nil)))
    (s_cons (s_if (O' := []) (q_cmp (op_eqD (by have h := Room.u64 W; exact h)) v_eq (p_var 1) p_str (nomark _)) (s_one (s_ret (p_tup (p_cons p_str (p_cons (p_var 3) p_nil))))) s_nil)
    (s_cons (s_if (O' := []) (q_cmp (op_eqD (by have h := Room.u64 W; exact h)) v_eq (p_var 1) p_str (nomark _)) (s_one (s_ret (p_tup (p_cons p_str (p_cons (p_var 3) (p_cons (p_var 2) p_nil)))))) s_nil)
    (s_cons (s_if (O' := []) (q_cmp (op_eqD (by have h := Room.u64 W; exact h)) v_eq (p_var 1) p_str (nomark _)) (s_one (s_ret (p_tup (p_cons p_str (p_cons (p_var 3) (p_cons (p_tup (p_cons p_str (p_cons (p_var 2) p_nil))) p_nil)))))) s_nil)
    (s_cons (s_if (O' := []) (q_cmp (op_eqD (by have h := Room.u64 W; exact h)) v_eq (p_var 1) p_str (nomark _)) (s_one (s_ret (p_tup (p_cons p_str (p_cons (p_tup (p_cons p_str (p_cons (p_tup (p_cons p_str (p_cons (p_ix ix_seq v_ix (p_var 0) p_int (by intro _ _; rfl)) p_nil))) (p_cons (p_tup (p_cons p_str (p_cons (p_var 2) (p_cons (p_bin op_sub v_sub (p_ix ix_seq v_ix (p_var 0) p_int (by intro _ _; rfl)) p_int) p_nil)))) p_nil)))) (p_cons (p_var 3) p_nil)))))) s_nil)
    (s_cons (s_par 4 5 rfl sc__law_term_slope.nd (p_cons (p_ix ix_seq v_ix (p_var 0) p_int (by intro _ _; rfl)) (p_cons (p_call W ih S.g__law_term_slope S.k__law_term_slope S.b__law_term_slope (p_cons (p_ix ix_seq v_ix (p_var 0) p_int (by intro _ _; rfl)) p_nil)) p_nil)))
    (s_cons (s_if (O' := []) (w_pt (w_or (q_cmp (op_eqD (by have h := Room.u64 W; exact h)) v_eq (p_var 1) p_str (nomark _)) (w_or1 (q_cmp (op_eqD (by have h := Room.u64 W; exact h)) v_eq (p_var 1) p_str (nomark _))))) (s_one (s_ret (p_tup (p_cons (p_var 1) (p_cons (p_var 3) (p_cons (p_var 5) p_nil)))))) s_nil)
    (s_cons (s_if (O' := []) (q_cmp (op_eqD (by have h := Room.u64 W; exact h)) v_eq (p_var 1) p_str (nomark _)) (s_one (s_ret (p_tup (p_cons p_str (p_cons (p_tup (p_cons p_str (p_cons (p_var 3) (p_cons (p_var 4) p_nil)))) (p_cons (p_tup (p_cons p_str (p_cons (p_var 2) (p_cons (p_var 5) p_nil)))) p_nil)))))) s_nil)
    (s_one (s_ret (p_tup (p_cons p_str (p_cons (p_tup (p_cons p_str (p_cons (p_tup (p_cons p_str (p_cons (p_var 3) (p_cons (p_var 4) p_nil)))) (p_cons (p_tup (p_cons p_str (p_cons (p_var 2) (p_cons (p_var 5) p_nil)))) p_nil)))) (p_cons (p_tup (p_cons p_str (p_cons (p_var 4) (p_cons p_int p_nil)))) p_nil))))))))))))))))
theorem ok__law_term_slope {P : Program} {w : World} {K : PySem.W.Frag} {mg : Str → Option Value} {base : Heap} (S : Fs P K mg) : ∀ n : Nat, FnG P w K mg base (L2.CX P w) (0 + n) S.f__law_term_slope S.d__law_term_slope ["_law_term"] (spP K mg [] 1 (F__law_term_slope n))
  | 0 => fng_stuck rfl
  | n + 1 => st__law_term_slope S n _ (ok__law_term_slope S n)
/-! #### _law_put -/
theorem sc__law_put : FnScope ["_law_term", "_law_path_here", "_law_value", "_law_parts_here", "_law_at", "_law_part"] ["_law_term", "_law_path_here", "_law_value"] (defScope (topS 40)) := ⟨rfl, rfl, rfl, by decide +kernel, rfl, by decide +kernel, by decide +kernel⟩
def d__law_put (R : FD) : SD := (sSeq (sIf (tV (f2 gEq (fv 1) (fN gTup aNil))) (sRet (fv 2)) sNx)
    (sSeq (sAsg (lstE (compN (iEn (fCall F__law_parts (aCons (fv 0) aNil))) (gTp 2 (gsCons (gNm 4) (gsCons (gNm 5) gsNil))) tYs (fIf (tV (f2 gEq (fv 4) (f2 gIx (fv 1) (f0 (.int 0))))) (fCall R (aCons (fv 5) (aCons (fSl (fv 1) (oPt (f0 (.int 1))) oNo) (aCons (fv 2) aNil)))) (fv 5)) [4, 5])) (gNm 3))
    (sRet (f2 gAdd (f2 gAdd (fN gTup (aCons (f2 gIx (fv 0) (f0 (.int 0))) aNil)) (fN gTupOf (aCons (fv 3) aNil))) (fIf (tV (f2 gEq (f2 gIx (fv 0) (f0 (.int 0))) (f0 (.str "power")))) (fN gTup (aCons (f2 gIx (fv 0) (f0 (.int 2))) aNil)) (fN gTup aNil))))))
def F__law_put : Nat → FD
  | 0 => fun _ => .stuck
  | n + 1 => runB 6 [] (d__law_put (F__law_put n))
theorem st__law_put {P : Program} {w : World} {K : PySem.W.Frag} {mg : Str → Option Value} {base : Heap} (S : Fs P K mg) (n : Nat) (R : FD) (ih : FnG P w K mg base (L2.CX P w) (1 + n) S.f__law_put S.d__law_put ["_law_term", "_law_path_here", "_law_value"] (spP K mg [] 3 R)) : FnG P w K mg base (L2.CX P w) (1 + n + 1) S.f__law_put S.d__law_put ["_law_term", "_law_path_here", "_law_value"] (spP K mg [] 3 (runB 6 [] (d__law_put R))) :=
  dk (k := 1 + n) (b := d__law_put R) S.D__law_put sc__law_put rfl rfl fun _ _ _ _ _ _ _ W => (s_cons (s_if (O' := []) (q_cmp (op_eqD (by have h := Room.u64 W; exact h)) v_eq (p_var 1) (p_tup p_nil) (nomark _)) (s_one (s_ret (p_var 2))) s_nil)
    (s_cons (s_lc 3 (by rfl) sc__law_put.nd (i_enum (p_call W (FnG.mono (ok__law_parts S) (by omega)) S.g__law_parts S.k__law_parts S.b__law_parts (p_cons (p_var 0) p_nil)) S.n_enumerate) (blkOk_by (N := ["_law_term", "_law_path_here", "_law_value", "_law_parts_here", "_law_at", "_law_part"]) (sc := defScope (topS 40)) (own := [("_law_at", 4), ("_law_part", 5)]) (by decide +kernel)) (fun _ _ _ _ _ _ => (g_tup (by rfl) (g_cons (g_name 4 sc__law_put.nd (by first | exact Or.inl rfl | exact Or.inr rfl)) (g_cons (g_name 5 sc__law_put.nd (by first | exact Or.inl rfl | exact Or.inr rfl)) g_nil (by decide)) (by decide)))) (fun _ _ _ _ _ _ => q_none) (fun _ _ _ _ _ _ => (p_ifx (q_cmp (op_eqD (by have h := Room.u64 W; exact h)) v_eq (p_var 4) (p_ix ix_seq v_ix (p_var 1) p_int (by intro _ _; rfl)) (nomark _)) (p_call (BodyCx.blk W) ih S.g__law_put S.k__law_put S.b__law_put (p_cons (p_var 5) (p_cons (p_sl (p_var 1) (po_pt p_int) po_no) (p_cons (p_var 2) p_nil)))) (p_var 5))) (hsw := by exact sw_true rfl rfl rfl (by decide +kernel)))
    (s_one (s_ret (p_bin op_plus v_plus (p_bin op_plus v_plus (p_tup (p_cons (p_ix ix_seq v_ix (p_var 0) p_int (by intro _ _; rfl)) p_nil)) (p_callTy call_tuple_of v_tupOf (by rfl) S.n_tuple (by decide +kernel) (p_cons (p_var 3) p_nil))) (p_ifx (q_cmp (op_eqD (by have h := Room.u64 W; exact h)) v_eq (p_ix ix_seq v_ix (p_var 0) p_int (by intro _ _; rfl)) p_str (nomark _)) (p_tup (p_cons (p_ix ix_seq v_ix (p_var 0) p_int (by intro _ _; rfl)) p_nil)) (p_tup p_nil)))))))
theorem ok__law_put {P : Program} {w : World} {K : PySem.W.Frag} {mg : Str → Option Value} {base : Heap} (S : Fs P K mg) : ∀ n : Nat, FnG P w K mg base (L2.CX P w) (1 + n) S.f__law_put S.d__law_put ["_law_term", "_law_path_here", "_law_value"] (spP K mg [] 3 (F__law_put n))
  | 0 => fng_stuck rfl
  | n + 1 => st__law_put S n _ (ok__law_put S n)
/-! #### _law_path -/
theorem sc__law_path : FnScope ["_law_cup_here", "_law_term", "_law_path_here", "_law_turn", "_law_parts_here", "_law_at"] ["_law_cup_here", "_law_term"] (defScope (topS 39)) := ⟨rfl, rfl, rfl, by decide +kernel, rfl, by decide +kernel, by decide +kernel⟩
def d__law_path : SD := (sSeq (sAsg (fN gTup aNil) (gNm 2))
    (sSeq (sFor (iRn1 (aCons (fCallIo 0 F__law_roll (aCons (f0 (.int 5)) aNil)) aNil)) (gNm 3) (sSeq (sAsg (fCall F__law_parts (aCons (fv 1) aNil)) (gNm 4))
    (sIf (tV (f2 gGt (fN gLen (aCons (fv 4) aNil)) (f0 (.int 0)))) (sSeq (sAsg (fCallIo 0 F__law_roll (aCons (fN gLen (aCons (fv 4) aNil)) aNil)) (gNm 5))
    (sPar 2 1 (aCons (f2 gAdd (fv 2) (fN gTup (aCons (fv 5) aNil))) (aCons (f2 gIx (fv 4) (fv 5)) aNil)))) sNx)))
    (sRet (fv 2))))
def F__law_path : FD := runB 6 [0] d__law_path
theorem ok__law_path {P : Program} {w : World} {K : PySem.W.Frag} {mg : Str → Option Value} {base : Heap} (S : Fs P K mg) : FnG P w K mg base (L2.CX P w) 2 S.f__law_path S.d__law_path ["_law_cup_here", "_law_term"] (spP K mg [0] 2 F__law_path) :=
  dk (k := 1) (b := d__law_path) S.D__law_path sc__law_path rfl rfl fun _ _ _ _ _ _ _ W => (s_cons (s_set 2 sc__law_path.nd (by first | exact Or.inl rfl | exact Or.inr rfl) (p_tup p_nil))
    (s_cons (s_for (BodyCx.own W) rfl (i_range1 S.n_range (p_cons (p_callIo 0 W (FnG.mono (ok__law_roll S) (by decide)) S.g__law_roll S.k__law_roll S.b__law_roll (p_cons p_int p_nil)) p_nil)) (g_name 3 sc__law_path.nd (by first | exact Or.inl rfl | exact Or.inr rfl)) (s_cons (s_set 4 sc__law_path.nd (by first | exact Or.inl rfl | exact Or.inr rfl) (p_call W (FnG.mono (ok__law_parts S) (by decide)) S.g__law_parts S.k__law_parts S.b__law_parts (p_cons (p_var 1) p_nil)))
    (s_one (s_if (O' := [0]) (q_cmp op_gt (v_cmp _) (p_callB call_len v_len (by rfl) S.n_len (by decide +kernel) (p_cons (p_var 4) p_nil)) p_int (nomark _)) (s_cons (s_set 5 sc__law_path.nd (by first | exact Or.inl rfl | exact Or.inr rfl) (p_callIo 0 W (FnG.mono (ok__law_roll S) (by decide)) S.g__law_roll S.k__law_roll S.b__law_roll (p_cons (p_callB call_len v_len (by rfl) S.n_len (by decide +kernel) (p_cons (p_var 4) p_nil)) p_nil)))
    (s_one (s_par 2 1 rfl sc__law_path.nd (p_cons (p_bin op_plus v_plus (p_var 2) (p_tup (p_cons (p_var 5) p_nil))) (p_cons (p_ix ix_seq v_ix (p_var 4) (p_var 5) (by intro _ _; rfl)) p_nil))))) s_nil))))
    (s_one (s_ret (p_var 2)))))
/-! #### _law_odd -/
theorem sc__law_odd : FnScope ["_law_cup_here", "_law_some_here"] ["_law_cup_here"] (defScope (topS 38)) := ⟨rfl, rfl, rfl, by decide +kernel, rfl, by decide +kernel, by decide +kernel⟩
def d__law_odd : SD := (sSeq (sAsg (fN gLst (aCons (f0 .non) (aCons (f0 (.int 3)) (aCons (f0 (.bl true)) (aCons (fN gTup aNil) (aCons (f0 (.str "x")) (aCons (fN gLst (aCons (f0 (.str "x")) aNil)) (aCons (fN gTup (aCons (f0 (.str "x")) (aCons (f0 (.int 1)) aNil))) (aCons (fN gTup (aCons (f0 (.str "y")) aNil)) (aCons (fN gTup (aCons (f0 (.str "whole")) (aCons (f1 gNeg (f0 (.int 1))) aNil))) (aCons (fN gTup (aCons (f0 (.str "whole")) (aCons (f0 (.int 1000001)) aNil))) (aCons (fN gTup (aCons (f0 (.str "whole")) (aCons (f0 (.bl true)) aNil))) (aCons (fN gTup (aCons (f0 (.str "whole")) aNil)) aNil))))))))))))) (gNm 1))
    (sSeq (sAsg (f2 gAdd (fv 1) (fN gLst (aCons (fN gTup (aCons (f0 (.str "negative")) aNil)) (aCons (fN gTup (aCons (f0 (.str "plus")) (aCons (fN gTup (aCons (f0 (.str "x")) aNil)) aNil))) (aCons (fN gTup (aCons (f0 (.str "power")) (aCons (fN gTup (aCons (f0 (.str "x")) aNil)) (aCons (f0 (.int 13)) aNil)))) (aCons (fN gTup (aCons (f0 (.str "power")) (aCons (fN gTup (aCons (f0 (.str "x")) aNil)) (aCons (f1 gNeg (f0 (.int 1))) aNil)))) (aCons (fN gTup (aCons (f0 (.str "power")) (aCons (fN gTup (aCons (f0 (.str "x")) aNil)) (aCons (f0 (.bl true)) aNil)))) aNil))))))) (gNm 1))
    (sSeq (sAsg (f2 gAdd (fv 1) (fN gLst (aCons (fN gTup (aCons (f0 (.str "power")) (aCons (fN gTup (aCons (f0 (.str "x")) aNil)) aNil))) (aCons (fN gTup (aCons (f0 (.str "log")) (aCons (fN gTup (aCons (f0 (.str "x")) aNil)) (aCons (f0 (.int 1)) aNil)))) (aCons (fN gTup (aCons (f0 (.str "x")) (aCons (fN gTup (aCons (f0 (.str "x")) aNil)) aNil))) (aCons (fN gTup (aCons (f0 (.str "times")) (aCons (fN gTup (aCons (f0 (.str "x")) aNil)) (aCons (fN gTup (aCons (f0 (.str "x")) aNil)) (aCons (fN gTup (aCons (f0 (.str "x")) aNil)) aNil))))) (aCons (fN gTup (aCons (fN gTup (aCons (f0 (.str "x")) aNil)) aNil)) aNil))))))) (gNm 1))
    (sRet (fCallIo 0 F__law_some (aCons (fv 1) aNil))))))
def F__law_odd : FD := runB 2 [0] d__law_odd
theorem ok__law_odd {P : Program} {w : World} {K : PySem.W.Frag} {mg : Str → Option Value} {base : Heap} (S : Fs P K mg) : FnG P w K mg base (L2.CX P w) 3 S.f__law_odd S.d__law_odd ["_law_cup_here"] (spP K mg [0] 1 F__law_odd) :=
  dk (k := 2) (b := d__law_odd) S.D__law_odd sc__law_odd rfl rfl fun _ _ _ _ _ _ _ W => (s_cons (s_set 1 sc__law_odd.nd (by first | exact Or.inl rfl | exact Or.inr rfl) (p_lst (p_cons p_non (p_cons p_int (p_cons p_bl (p_cons (p_tup p_nil) (p_cons p_str (p_cons (p_lst (p_cons p_str p_nil)) (p_cons (p_tup (p_cons p_str (p_cons p_int p_nil))) (p_cons (p_tup (p_cons p_str p_nil)) (p_cons (p_tup (p_cons p_str (p_cons (p_un un_neg v_neg p_int) p_nil))) (p_cons (p_tup (p_cons p_str (p_cons p_int p_nil))) (p_cons (p_tup (p_cons p_str (p_cons p_bl p_nil))) (p_cons (p_tup (p_cons p_str p_nil)) p_nil))))))))))))))
    (s_cons (s_set 1 sc__law_odd.nd (by first | exact Or.inl rfl | exact Or.inr rfl) (p_bin op_plus v_plus (p_var 1) (p_lst (p_cons (p_tup (p_cons p_str p_nil)) (p_cons (p_tup (p_cons p_str (p_cons (p_tup (p_cons p_str p_nil)) p_nil))) (p_cons (p_tup (p_cons p_str (p_cons (p_tup (p_cons p_str p_nil)) (p_cons p_int p_nil)))) (p_cons (p_tup (p_cons p_str (p_cons (p_tup (p_cons p_str p_nil)) (p_cons (p_un un_neg v_neg p_int) p_nil)))) (p_cons (p_tup (p_cons p_str (p_cons (p_tup (p_cons p_str p_nil)) (p_cons p_bl p_nil)))) p_nil))))))))
    (s_cons (s_set 1 sc__law_odd.nd (by first | exact Or.inl rfl | exact Or.inr rfl) (p_bin op_plus v_plus (p_var 1) (p_lst (p_cons (p_tup (p_cons p_str (p_cons (p_tup (p_cons p_str p_nil)) p_nil))) (p_cons (p_tup (p_cons p_str (p_cons (p_tup (p_cons p_str p_nil)) (p_cons p_int p_nil)))) (p_cons (p_tup (p_cons p_str (p_cons (p_tup (p_cons p_str p_nil)) p_nil))) (p_cons (p_tup (p_cons p_str (p_cons (p_tup (p_cons p_str p_nil)) (p_cons (p_tup (p_cons p_str p_nil)) (p_cons (p_tup (p_cons p_str p_nil)) p_nil))))) (p_cons (p_tup (p_cons (p_tup (p_cons p_str p_nil)) p_nil)) p_nil))))))))
    (s_one (s_ret (p_callIo 0 W (FnG.mono (ok__law_some S) (by decide)) S.g__law_some S.k__law_some S.b__law_some (p_cons (p_var 1) p_nil)))))))
/-! #### law -/
theorem sc_law : FnScope ["_law_script", "_law_cup_here", "_law_term", "_law_turn"] ["_law_script"] (defScope (topS 44)) := ⟨rfl, rfl, rfl, by decide +kernel, rfl, by decide +kernel, by decide +kernel⟩
def d_law : SD := (sSeq (sOwn 1 (nCall F__law_cup (aCons (fv 0) aNil)))
    (sSeq (sAsg (fCallIo 1 (F__law_drawn 100) (aCons (fCallIo 1 F__law_some (aCons (fN gLst (aCons (f0 (.int 1)) (aCons (f0 (.int 2)) (aCons (f0 (.int 3)) (aCons (f0 (.int 4)) (aCons (f0 (.int 5)) aNil)))))) aNil)) (aCons (fN gLst (aCons (f0 (.int 0)) (aCons (f0 (.int 1)) (aCons (f0 (.int 2)) (aCons (f0 (.int 3)) (aCons (f0 (.int 12)) aNil)))))) (aCons (fN gLst (aCons (f0 (.str "log")) (aCons (f0 (.str "exp")) aNil))) aNil)))) (gNm 2))
    (sSeq (sIf (tV (f2 gEq (fCallIo 1 F__law_roll (aCons (f0 (.int 16)) aNil)) (f0 (.int 0)))) (sFor (iRn1 (aCons (fCallIo 1 F__law_some (aCons (fN gLst (aCons (f0 (.int 11)) (aCons (f0 (.int 12)) (aCons (f0 (.int 13)) (aCons (f0 (.int 14)) (aCons (f0 (.int 15)) (aCons (f0 (.int 16)) aNil))))))) aNil)) aNil)) (gNm 3) (sAsg (fN gTup (aCons (fCallIo 1 F__law_some (aCons (fN gLst (aCons (f0 (.str "negative")) (aCons (f0 (.str "exp")) (aCons (f0 (.str "log")) aNil)))) aNil)) (aCons (fv 2) aNil))) (gNm 2))) sNx)
    (sSeq (sIf (tV (f2 gEq (fCallIo 1 F__law_roll (aCons (f0 (.int 16)) aNil)) (f0 (.int 0)))) (sFor (iRn1 (aCons (fCallIo 1 F__law_some (aCons (fN gLst (aCons (f0 (.int 4)) (aCons (f0 (.int 5)) (aCons (f0 (.int 6)) (aCons (f0 (.int 7)) aNil))))) aNil)) aNil)) (gNm 3) (sAsg (fN gTup (aCons (fCallIo 1 F__law_some (aCons (fN gLst (aCons (f0 (.str "plus")) (aCons (f0 (.str "minus")) aNil))) aNil)) (aCons (fv 2) (aCons (fCallIo 1 F__law_some (aCons (fN gLst (aCons (fv 2) (aCons (fN gTup (aCons (f0 (.str "x")) aNil)) aNil))) aNil)) aNil)))) (gNm 2))) sNx)
    (sSeq (sIf (tV (f2 gEq (fCallIo 1 F__law_roll (aCons (f0 (.int 8)) aNil)) (f0 (.int 0)))) (sRet (fCall F__law_same (aCons (fCall F__law_derive (aCons (fCall (F__law_put 100) (aCons (fv 2) (aCons (fCallIo 1 F__law_path (aCons (fv 2) aNil)) (aCons (fCallIo 1 F__law_odd aNil) aNil)))) aNil)) (aCons (fN gTup (aCons (f0 (.str "InvalidTerm")) (aCons (f0 (.int 0)) aNil))) aNil)))) sNx)
    (sSeq (sIf (tV (f2 gGt (fCall F__law_height (aCons (fv 2) aNil)) (f0 (.int 16)))) (sRet (fCall F__law_same (aCons (fCall F__law_derive (aCons (fv 2) aNil)) (aCons (fN gTup (aCons (f0 (.str "TooMany")) (aCons (f0 (.int 16)) aNil))) aNil)))) sNx)
    (sSeq (sIf (tV (f2 gGt (fCall (F__law_count 100) (aCons (fv 2) aNil)) (f0 (.int 400)))) (sRet (fCall F__law_same (aCons (fCall F__law_derive (aCons (fv 2) aNil)) (aCons (fN gTup (aCons (f0 (.str "TooMany")) (aCons (f0 (.int 400)) aNil))) aNil)))) sNx)
    (sRet (fCall F__law_same (aCons (fCall F__law_derive (aCons (fv 2) aNil)) (aCons (fN gTup (aCons (f0 (.str "term")) (aCons (fCall (F__law_term_slope 100) (aCons (fv 2) aNil)) aNil))) aNil)))))))))))
def F_law : FD := runB 4 [] d_law
theorem ok_law {P : Program} {w : World} {K : PySem.W.Frag} {mg : Str → Option Value} {base : Heap} (S : Fs P K mg) : FnG P w K mg base (L2.CX P w) 104 S.f_law S.d_law ["_law_script"] (spP K mg [] 1 F_law) :=
  dk (k := 103) (b := d_law) S.D_law sc_law rfl rfl fun _ _ _ _ _ _ _ W => (s_cons (s_own 1 sc_law.nd (by first | exact Or.inl rfl | exact Or.inr rfl) (n_call W (FnG.mono (ok__law_cup S) (by decide)) S.g__law_cup S.k__law_cup S.b__law_cup (p_cons (p_var 0) p_nil)))
    (s_cons (s_set 2 sc_law.nd (by first | exact Or.inl rfl | exact Or.inr rfl) (p_callIo 1 W (FnG.mono (ok__law_drawn S 100) (by decide)) S.g__law_drawn S.k__law_drawn S.b__law_drawn (p_cons (p_callIo 1 W (FnG.mono (ok__law_some S) (by decide)) S.g__law_some S.k__law_some S.b__law_some (p_cons (p_lst (p_cons p_int (p_cons p_int (p_cons p_int (p_cons p_int (p_cons p_int p_nil)))))) p_nil)) (p_cons (p_lst (p_cons p_int (p_cons p_int (p_cons p_int (p_cons p_int (p_cons p_int p_nil)))))) (p_cons (p_lst (p_cons p_str (p_cons p_str p_nil))) p_nil)))))
    (s_cons (s_if (O' := [1]) (q_cmp (op_eqD (by have h := Room.u64 W; exact h)) v_eq (p_callIo 1 W (FnG.mono (ok__law_roll S) (by decide)) S.g__law_roll S.k__law_roll S.b__law_roll (p_cons p_int p_nil)) p_int (nomark _)) (s_one (s_for (BodyCx.own W) rfl (i_range1 S.n_range (p_cons (p_callIo 1 W (FnG.mono (ok__law_some S) (by decide)) S.g__law_some S.k__law_some S.b__law_some (p_cons (p_lst (p_cons p_int (p_cons p_int (p_cons p_int (p_cons p_int (p_cons p_int (p_cons p_int p_nil))))))) p_nil)) p_nil)) (g_name 3 sc_law.nd (by first | exact Or.inl rfl | exact Or.inr rfl)) (s_one (s_set 2 sc_law.nd (by first | exact Or.inl rfl | exact Or.inr rfl) (p_tup (p_cons (p_callIo 1 W (FnG.mono (ok__law_some S) (by decide)) S.g__law_some S.k__law_some S.b__law_some (p_cons (p_lst (p_cons p_str (p_cons p_str (p_cons p_str p_nil)))) p_nil)) (p_cons (p_var 2) p_nil))))))) s_nil)
    (s_cons (s_if (O' := [1]) (q_cmp (op_eqD (by have h := Room.u64 W; exact h)) v_eq (p_callIo 1 W (FnG.mono (ok__law_roll S) (by decide)) S.g__law_roll S.k__law_roll S.b__law_roll (p_cons p_int p_nil)) p_int (nomark _)) (s_one (s_for (BodyCx.own W) rfl (i_range1 S.n_range (p_cons (p_callIo 1 W (FnG.mono (ok__law_some S) (by decide)) S.g__law_some S.k__law_some S.b__law_some (p_cons (p_lst (p_cons p_int (p_cons p_int (p_cons p_int (p_cons p_int p_nil))))) p_nil)) p_nil)) (g_name 3 sc_law.nd (by first | exact Or.inl rfl | exact Or.inr rfl)) (s_one (s_set 2 sc_law.nd (by first | exact Or.inl rfl | exact Or.inr rfl) (p_tup (p_cons (p_callIo 1 W (FnG.mono (ok__law_some S) (by decide)) S.g__law_some S.k__law_some S.b__law_some (p_cons (p_lst (p_cons p_str (p_cons p_str p_nil))) p_nil)) (p_cons (p_var 2) (p_cons (p_callIo 1 W (FnG.mono (ok__law_some S) (by decide)) S.g__law_some S.k__law_some S.b__law_some (p_cons (p_lst (p_cons (p_var 2) (p_cons (p_tup (p_cons p_str p_nil)) p_nil))) p_nil)) p_nil)))))))) s_nil)
    (s_cons (s_if (O' := [1]) (q_cmp (op_eqD (by have h := Room.u64 W; exact h)) v_eq (p_callIo 1 W (FnG.mono (ok__law_roll S) (by decide)) S.g__law_roll S.k__law_roll S.b__law_roll (p_cons p_int p_nil)) p_int (nomark _)) (s_one (s_ret (p_call W (FnG.mono (ok__law_same S) (by decide)) S.g__law_same S.k__law_same S.b__law_same (p_cons (p_call W (FnG.mono (ok__law_derive S) (by decide)) S.g__law_derive S.k__law_derive S.b__law_derive (p_cons (p_call W (FnG.mono (ok__law_put S 100) (by decide)) S.g__law_put S.k__law_put S.b__law_put (p_cons (p_var 2) (p_cons (p_callIo 1 W (FnG.mono (ok__law_path S) (by decide)) S.g__law_path S.k__law_path S.b__law_path (p_cons (p_var 2) p_nil)) (p_cons (p_callIo 1 W (FnG.mono (ok__law_odd S) (by decide)) S.g__law_odd S.k__law_odd S.b__law_odd p_nil) p_nil)))) p_nil)) (p_cons (p_tup (p_cons p_str (p_cons p_int p_nil))) p_nil))))) s_nil)
    (s_cons (s_if (O' := [1]) (q_cmp op_gt (v_cmp _) (p_call W (FnG.mono (ok__law_height S) (by decide)) S.g__law_height S.k__law_height S.b__law_height (p_cons (p_var 2) p_nil)) p_int (nomark _)) (s_one (s_ret (p_call W (FnG.mono (ok__law_same S) (by decide)) S.g__law_same S.k__law_same S.b__law_same (p_cons (p_call W (FnG.mono (ok__law_derive S) (by decide)) S.g__law_derive S.k__law_derive S.b__law_derive (p_cons (p_var 2) p_nil)) (p_cons (p_tup (p_cons p_str (p_cons p_int p_nil))) p_nil))))) s_nil)
    (s_cons (s_if (O' := [1]) (q_cmp op_gt (v_cmp _) (p_call W (FnG.mono (ok__law_count S 100) (by decide)) S.g__law_count S.k__law_count S.b__law_count (p_cons (p_var 2) p_nil)) p_int (nomark _)) (s_one (s_ret (p_call W (FnG.mono (ok__law_same S) (by decide)) S.g__law_same S.k__law_same S.b__law_same (p_cons (p_call W (FnG.mono (ok__law_derive S) (by decide)) S.g__law_derive S.k__law_derive S.b__law_derive (p_cons (p_var 2) p_nil)) (p_cons (p_tup (p_cons p_str (p_cons p_int p_nil))) p_nil))))) s_nil)
    (s_one (s_ret (p_call W (FnG.mono (ok__law_same S) (by decide)) S.g__law_same S.k__law_same S.b__law_same (p_cons (p_call W (FnG.mono (ok__law_derive S) (by decide)) S.g__law_derive S.k__law_derive S.b__law_derive (p_cons (p_var 2) p_nil)) (p_cons (p_tup (p_cons p_str (p_cons (p_call W (FnG.mono (ok__law_term_slope S 100) (by decide)) S.g__law_term_slope S.k__law_term_slope S.b__law_term_slope (p_cons (p_var 2) p_nil)) p_nil))) p_nil))))))))))))
/-! ### the head -/
def fnL : List He.DefD := [⟨("_law_cup", none), "_law_cup", "_law_cup", defArgs (topS 31), defBody (topS 31), defScope (topS 31), [], []⟩,
  ⟨("_law_roll", none), "_law_roll", "_law_roll", defArgs (topS 32), defBody (topS 32), defScope (topS 32), [], []⟩,
  ⟨("_law_some", none), "_law_some", "_law_some", defArgs (topS 33), defBody (topS 33), defScope (topS 33), [], []⟩,
  ⟨("_law_drawn", none), "_law_drawn", "_law_drawn", defArgs (topS 37), defBody (topS 37), defScope (topS 37), [], []⟩,
  ⟨("_law_same", none), "_law_same", "_law_same", defArgs (topS 42), defBody (topS 42), defScope (topS 42), [], []⟩,
  ⟨("_law_parts", none), "_law_parts", "_law_parts", defArgs (topS 34), defBody (topS 34), defScope (topS 34), [], []⟩,
  ⟨("_law_height", none), "_law_height", "_law_height", defArgs (topS 35), defBody (topS 35), defScope (topS 35), [], []⟩,
  ⟨("_law_count", none), "_law_count", "_law_count", defArgs (topS 36), defBody (topS 36), defScope (topS 36), [], []⟩,
  ⟨("own_parts", none), "own_parts", "own_parts", defArgs (topS 17), defBody (topS 17), defScope (topS 17), [], []⟩,
  ⟨("level_below", none), "level_below", "level_below", defArgs (topS 18), defBody (topS 18), defScope (topS 18), [], []⟩,
  ⟨("is_tuple_of", none), "is_tuple_of", "is_tuple_of", defArgs (topS 8), defBody (topS 8), defScope (topS 8), [], []⟩,
  ⟨("is_integer", none), "is_integer", "is_integer", defArgs (topS 6), defBody (topS 6), defScope (topS 6), [], []⟩,
  ⟨("is_whole", none), "is_whole", "is_whole", defArgs (topS 7), defBody (topS 7), defScope (topS 7), [], []⟩,
  ⟨("has_shape", none), "has_shape", "has_shape", defArgs (topS 16), defBody (topS 16), defScope (topS 16), [], []⟩,
  ⟨("fits_term", none), "fits_term", "fits_term", defArgs (topS 19), defBody (topS 19), defScope (topS 19), [], []⟩,
  ⟨("need_term", none), "need_term", "need_term", defArgs (topS 20), defBody (topS 20), defScope (topS 20), [], []⟩,
  ⟨("slope_of_two", none), "slope_of_two", "slope_of_two", defArgs (topS 28), defBody (topS 28), defScope (topS 28), [], []⟩,
  ⟨("slope_of_power", none), "slope_of_power", "slope_of_power", defArgs (topS 27), defBody (topS 27), defScope (topS 27), [], []⟩,
  ⟨("slope_term", none), "slope_term", "slope_term", defArgs (topS 26), defBody (topS 26), defScope (topS 26), [], []⟩,
  ⟨("derived_term", none), "derived_term", "derived_term", defArgs (topS 29), defBody (topS 29), defScope (topS 29), [], []⟩,
  ⟨("_law_derive", none), "_law_derive", "_law_derive", defArgs (topS 43), defBody (topS 43), defScope (topS 43), [], []⟩,
  ⟨("_law_term_slope", none), "_law_term_slope", "_law_term_slope", defArgs (topS 41), defBody (topS 41), defScope (topS 41), [], []⟩,
  ⟨("_law_put", none), "_law_put", "_law_put", defArgs (topS 40), defBody (topS 40), defScope (topS 40), [], []⟩,
  ⟨("_law_path", none), "_law_path", "_law_path", defArgs (topS 39), defBody (topS 39), defScope (topS 39), [], []⟩,
  ⟨("_law_odd", none), "_law_odd", "_law_odd", defArgs (topS 38), defBody (topS 38), defScope (topS 38), [], []⟩,
  ⟨("law", none), "law", "law", defArgs (topS 44), defBody (topS 44), defScope (topS 44), [], []⟩]
def faL : List He.Fa := [.glo "_law_cup", .glo "_law_roll", .glo "_law_some", .glo "_law_drawn", .glo "_law_same", .glo "_law_parts", .glo "_law_height", .glo "_law_count", .glo "own_parts", .glo "level_below", .glo "is_tuple_of", .glo "is_integer", .glo "is_whole", .glo "has_shape", .glo "fits_term", .glo "need_term", .glo "slope_of_two", .glo "slope_of_power", .glo "slope_term", .glo "derived_term", .glo "_law_derive", .glo "_law_term_slope", .glo "_law_put", .glo "_law_path", .glo "_law_odd", .glo "law", .free "abs", .free "all", .free "bool", .free "enumerate", .free "int", .free "isinstance", .free "len", .free "list", .free "range", .free "repr", .free "str", .free "sum", .free "super", .free "tuple", .glo "ALONE", .int "HEIGHT" 60, .int "HIGHEST" 16, .int "LARGEST" 400, .glo "ONE", .glo "PAIRS", .int "PARTS" 20000, .int "POWERS" 12, .int "WHOLES" 1000000, .glo "ZERO", .glo "InvalidTerm", .exc "InvalidTerm", .glo "TooMany", .exm "InvalidTerm" "InvalidTerm" true, .exm "InvalidTerm" "TooMany" false, .exm "TooMany" "InvalidTerm" false, .exm "TooMany" "TooMany" true]
def exL (K : PySem.W.Frag) : Bool := He.tupB K "ALONE" [.str "negative", .str "power", .str "log", .str "exp"] && He.tupB K "ONE" [.str "whole", .int 1] && He.tupB K "PAIRS" [.str "plus", .str "minus", .str "times", .str "over"] && He.tupB K "ZERO" [.str "whole", .int 0]
open PySem.SupV in
def clsFn (s : Stmt) : Stmt := match s with
  | .ClassDef _ _ _ (f :: _) _ _ _ _ _ _ _ => f
  | s => s
def in_TooMany : SupV.InD := ⟨"TooMany", "limit", "TooMany.__init__", defArgs (clsFn (topS 2)), defBody (clsFn (topS 2)), defScope (clsFn (topS 2))⟩
def isL : List SupV.InD := [in_TooMany]
abbrev PP : Program := PySem.Challenge.pw_towerback_k68_terms_derived_by_rules
theorem ownS_TooMany : SupV.InS PP in_TooMany.fld in_TooMany.params in_TooMany.scope := ⟨by decide +kernel, ⟨_, rfl, by decide +kernel⟩, by decide +kernel, by decide +kernel, by decide +kernel, by decide +kernel, by decide +kernel, by decide +kernel, rfl, rfl, rfl⟩
theorem own_TooMany {K : PySem.W.Frag} {h : Heap} {mg : Str → Option Value} (X : K.In h) (G : h.Ns PySem.mainGlobals mg) (hv : SupV.fnI K in_TooMany.cn = in_TooMany.val) (hok : in_TooMany.ok PP.main.file K = true) (ms : mg "super" = none) (mt : mg "str" = none) : SupV.Own1 PP K mg "TooMany" (He.ga K "TooMany") "limit" :=
  SupV.InD.own (d := in_TooMany) X G hv hok ownS_TooMany rfl (fun _ => rfl) (fun _ _ _ _ _ _ _ _ _ _ _ _ _ _ _ _ => rfl) (by decide) (by decide) (msg := "more than ") (by decide) (by decide) ms mt
theorem fs_of {K : PySem.W.Frag} {h : Heap} {mg : Str → Option Value} (X : K.In h) (G : h.Ns PySem.mainGlobals mg) (c : He.SaysD faL fnL K) (i1 : isL.map (fun d => SupV.fnI K d.cn) = isL.map SupV.InD.val) (i2 : isL.all (fun d => d.ok PP.main.file K) = true) (e : exL K = true) : Nonempty (Fs PP K mg) := by
  simp only [exL, Bool.and_eq_true] at e
  obtain ⟨d0, D0⟩ := c.def_ 0 (d := _) rfl
  have g0 := He.glo_ok X G (c.fact 0 (f := .glo "_law_cup") rfl)
  obtain ⟨d1, D1⟩ := c.def_ 1 (d := _) rfl
  have g1 := He.glo_ok X G (c.fact 1 (f := .glo "_law_roll") rfl)
  obtain ⟨d2, D2⟩ := c.def_ 2 (d := _) rfl
  have g2 := He.glo_ok X G (c.fact 2 (f := .glo "_law_some") rfl)
  obtain ⟨d3, D3⟩ := c.def_ 3 (d := _) rfl
  have g3 := He.glo_ok X G (c.fact 3 (f := .glo "_law_drawn") rfl)
  obtain ⟨d4, D4⟩ := c.def_ 4 (d := _) rfl
  have g4 := He.glo_ok X G (c.fact 4 (f := .glo "_law_same") rfl)
  obtain ⟨d5, D5⟩ := c.def_ 5 (d := _) rfl
  have g5 := He.glo_ok X G (c.fact 5 (f := .glo "_law_parts") rfl)
  obtain ⟨d6, D6⟩ := c.def_ 6 (d := _) rfl
  have g6 := He.glo_ok X G (c.fact 6 (f := .glo "_law_height") rfl)
  obtain ⟨d7, D7⟩ := c.def_ 7 (d := _) rfl
  have g7 := He.glo_ok X G (c.fact 7 (f := .glo "_law_count") rfl)
  obtain ⟨d8, D8⟩ := c.def_ 8 (d := _) rfl
  have g8 := He.glo_ok X G (c.fact 8 (f := .glo "own_parts") rfl)
  obtain ⟨d9, D9⟩ := c.def_ 9 (d := _) rfl
  have g9 := He.glo_ok X G (c.fact 9 (f := .glo "level_below") rfl)
  obtain ⟨d10, D10⟩ := c.def_ 10 (d := _) rfl
  have g10 := He.glo_ok X G (c.fact 10 (f := .glo "is_tuple_of") rfl)
  obtain ⟨d11, D11⟩ := c.def_ 11 (d := _) rfl
  have g11 := He.glo_ok X G (c.fact 11 (f := .glo "is_integer") rfl)
  obtain ⟨d12, D12⟩ := c.def_ 12 (d := _) rfl
  have g12 := He.glo_ok X G (c.fact 12 (f := .glo "is_whole") rfl)
  obtain ⟨d13, D13⟩ := c.def_ 13 (d := _) rfl
  have g13 := He.glo_ok X G (c.fact 13 (f := .glo "has_shape") rfl)
  obtain ⟨d14, D14⟩ := c.def_ 14 (d := _) rfl
  have g14 := He.glo_ok X G (c.fact 14 (f := .glo "fits_term") rfl)
  obtain ⟨d15, D15⟩ := c.def_ 15 (d := _) rfl
  have g15 := He.glo_ok X G (c.fact 15 (f := .glo "need_term") rfl)
  obtain ⟨d16, D16⟩ := c.def_ 16 (d := _) rfl
  have g16 := He.glo_ok X G (c.fact 16 (f := .glo "slope_of_two") rfl)
  obtain ⟨d17, D17⟩ := c.def_ 17 (d := _) rfl
  have g17 := He.glo_ok X G (c.fact 17 (f := .glo "slope_of_power") rfl)
  obtain ⟨d18, D18⟩ := c.def_ 18 (d := _) rfl
  have g18 := He.glo_ok X G (c.fact 18 (f := .glo "slope_term") rfl)
  obtain ⟨d19, D19⟩ := c.def_ 19 (d := _) rfl
  have g19 := He.glo_ok X G (c.fact 19 (f := .glo "derived_term") rfl)
  obtain ⟨d20, D20⟩ := c.def_ 20 (d := _) rfl
  have g20 := He.glo_ok X G (c.fact 20 (f := .glo "_law_derive") rfl)
  obtain ⟨d21, D21⟩ := c.def_ 21 (d := _) rfl
  have g21 := He.glo_ok X G (c.fact 21 (f := .glo "_law_term_slope") rfl)
  obtain ⟨d22, D22⟩ := c.def_ 22 (d := _) rfl
  have g22 := He.glo_ok X G (c.fact 22 (f := .glo "_law_put") rfl)
  obtain ⟨d23, D23⟩ := c.def_ 23 (d := _) rfl
  have g23 := He.glo_ok X G (c.fact 23 (f := .glo "_law_path") rfl)
  obtain ⟨d24, D24⟩ := c.def_ 24 (d := _) rfl
  have g24 := He.glo_ok X G (c.fact 24 (f := .glo "_law_odd") rfl)
  obtain ⟨d25, D25⟩ := c.def_ 25 (d := _) rfl
  have g25 := He.glo_ok X G (c.fact 25 (f := .glo "law") rfl)
  exact ⟨{
    f__law_cup := _
    d__law_cup := d0
    D__law_cup := D0
    g__law_cup := g0
    k__law_cup := D0.kp
    b__law_cup := D0.bindsN fun _ _ _ _ _ _ us hl => match us, hl with | [_], _ => rfl
    f__law_roll := _
    d__law_roll := d1
    D__law_roll := D1
    g__law_roll := g1
    k__law_roll := D1.kp
    b__law_roll := D1.bindsN fun _ _ _ _ _ _ us hl => match us, hl with | [_, _], _ => rfl
    f__law_some := _
    d__law_some := d2
    D__law_some := D2
    g__law_some := g2
    k__law_some := D2.kp
    b__law_some := D2.bindsN fun _ _ _ _ _ _ us hl => match us, hl with | [_, _], _ => rfl
    f__law_drawn := _
    d__law_drawn := d3
    D__law_drawn := D3
    g__law_drawn := g3
    k__law_drawn := D3.kp
    b__law_drawn := D3.bindsN fun _ _ _ _ _ _ us hl => match us, hl with | [_, _, _, _], _ => rfl
    f__law_same := _
    d__law_same := d4
    D__law_same := D4
    g__law_same := g4
    k__law_same := D4.kp
    b__law_same := D4.bindsN fun _ _ _ _ _ _ us hl => match us, hl with | [_, _], _ => rfl
    f__law_parts := _
    d__law_parts := d5
    D__law_parts := D5
    g__law_parts := g5
    k__law_parts := D5.kp
    b__law_parts := D5.bindsN fun _ _ _ _ _ _ us hl => match us, hl with | [_], _ => rfl
    f__law_height := _
    d__law_height := d6
    D__law_height := D6
    g__law_height := g6
    k__law_height := D6.kp
    b__law_height := D6.bindsN fun _ _ _ _ _ _ us hl => match us, hl with | [_], _ => rfl
    f__law_count := _
    d__law_count := d7
    D__law_count := D7
    g__law_count := g7
    k__law_count := D7.kp
    b__law_count := D7.bindsN fun _ _ _ _ _ _ us hl => match us, hl with | [_], _ => rfl
    f_own_parts := _
    d_own_parts := d8
    D_own_parts := D8
    g_own_parts := g8
    k_own_parts := D8.kp
    b_own_parts := D8.bindsN fun _ _ _ _ _ _ us hl => match us, hl with | [_], _ => rfl
    f_level_below := _
    d_level_below := d9
    D_level_below := D9
    g_level_below := g9
    k_level_below := D9.kp
    b_level_below := D9.bindsN fun _ _ _ _ _ _ us hl => match us, hl with | [_], _ => rfl
    f_is_tuple_of := _
    d_is_tuple_of := d10
    D_is_tuple_of := D10
    g_is_tuple_of := g10
    k_is_tuple_of := D10.kp
    b_is_tuple_of := D10.bindsN fun _ _ _ _ _ _ us hl => match us, hl with | [_, _, _], _ => rfl
    f_is_integer := _
    d_is_integer := d11
    D_is_integer := D11
    g_is_integer := g11
    k_is_integer := D11.kp
    b_is_integer := D11.bindsN fun _ _ _ _ _ _ us hl => match us, hl with | [_], _ => rfl
    f_is_whole := _
    d_is_whole := d12
    D_is_whole := D12
    g_is_whole := g12
    k_is_whole := D12.kp
    b_is_whole := D12.bindsN fun _ _ _ _ _ _ us hl => match us, hl with | [_, _, _], _ => rfl
    f_has_shape := _
    d_has_shape := d13
    D_has_shape := D13
    g_has_shape := g13
    k_has_shape := D13.kp
    b_has_shape := D13.bindsN fun _ _ _ _ _ _ us hl => match us, hl with | [_], _ => rfl
    f_fits_term := _
    d_fits_term := d14
    D_fits_term := D14
    g_fits_term := g14
    k_fits_term := D14.kp
    b_fits_term := D14.bindsN fun _ _ _ _ _ _ us hl => match us, hl with | [_, _, _], _ => rfl
    f_need_term := _
    d_need_term := d15
    D_need_term := D15
    g_need_term := g15
    k_need_term := D15.kp
    b_need_term := D15.bindsN fun _ _ _ _ _ _ us hl => match us, hl with | [_], _ => rfl
    f_slope_of_two := _
    d_slope_of_two := d16
    D_slope_of_two := D16
    g_slope_of_two := g16
    k_slope_of_two := D16.kp
    b_slope_of_two := D16.bindsN fun _ _ _ _ _ _ us hl => match us, hl with | [_, _, _], _ => rfl
    f_slope_of_power := _
    d_slope_of_power := d17
    D_slope_of_power := D17
    g_slope_of_power := g17
    k_slope_of_power := D17.kp
    b_slope_of_power := D17.bindsN fun _ _ _ _ _ _ us hl => match us, hl with | [_, _], _ => rfl
    f_slope_term := _
    d_slope_term := d18
    D_slope_term := D18
    g_slope_term := g18
    k_slope_term := D18.kp
    b_slope_term := D18.bindsN fun _ _ _ _ _ _ us hl => match us, hl with | [_], _ => rfl
    f_derived_term := _
    d_derived_term := d19
    D_derived_term := D19
    g_derived_term := g19
    k_derived_term := D19.kp
    b_derived_term := D19.bindsN fun _ _ _ _ _ _ us hl => match us, hl with | [_], _ => rfl
    f__law_derive := _
    d__law_derive := d20
    D__law_derive := D20
    g__law_derive := g20
    k__law_derive := D20.kp
    b__law_derive := D20.bindsN fun _ _ _ _ _ _ us hl => match us, hl with | [_], _ => rfl
    f__law_term_slope := _
    d__law_term_slope := d21
    D__law_term_slope := D21
    g__law_term_slope := g21
    k__law_term_slope := D21.kp
    b__law_term_slope := D21.bindsN fun _ _ _ _ _ _ us hl => match us, hl with | [_], _ => rfl
    f__law_put := _
    d__law_put := d22
    D__law_put := D22
    g__law_put := g22
    k__law_put := D22.kp
    b__law_put := D22.bindsN fun _ _ _ _ _ _ us hl => match us, hl with | [_, _, _], _ => rfl
    f__law_path := _
    d__law_path := d23
    D__law_path := D23
    g__law_path := g23
    k__law_path := D23.kp
    b__law_path := D23.bindsN fun _ _ _ _ _ _ us hl => match us, hl with | [_, _], _ => rfl
    f__law_odd := _
    d__law_odd := d24
    D__law_odd := D24
    g__law_odd := g24
    k__law_odd := D24.kp
    b__law_odd := D24.bindsN fun _ _ _ _ _ _ us hl => match us, hl with | [_], _ => rfl
    f_law := _
    d_law := d25
    D_law := D25
    g_law := g25
    k_law := D25.kp
    b_law := D25.bindsN fun _ _ _ _ _ _ us hl => match us, hl with | [_], _ => rfl
    n_abs := He.free_ok X G (c.fact 26 (f := .free "abs") rfl)
    n_all := He.free_ok X G (c.fact 27 (f := .free "all") rfl)
    n_bool := He.free_ok X G (c.fact 28 (f := .free "bool") rfl)
    n_enumerate := He.free_ok X G (c.fact 29 (f := .free "enumerate") rfl)
    n_int := He.free_ok X G (c.fact 30 (f := .free "int") rfl)
    n_isinstance := He.free_ok X G (c.fact 31 (f := .free "isinstance") rfl)
    n_len := He.free_ok X G (c.fact 32 (f := .free "len") rfl)
    n_list := He.free_ok X G (c.fact 33 (f := .free "list") rfl)
    n_range := He.free_ok X G (c.fact 34 (f := .free "range") rfl)
    n_repr := He.free_ok X G (c.fact 35 (f := .free "repr") rfl)
    n_str := He.free_ok X G (c.fact 36 (f := .free "str") rfl)
    n_sum := He.free_ok X G (c.fact 37 (f := .free "sum") rfl)
    n_super := He.free_ok X G (c.fact 38 (f := .free "super") rfl)
    n_tuple := He.free_ok X G (c.fact 39 (f := .free "tuple") rfl)
    c_ALONE := kd_tup X G (c.fact 40 (f := .glo "ALONE") rfl) e.1.1.1 (DvR.str (DvR.str (DvR.str (DvR.str DvR.nil))))
    c_HEIGHT := kd_int X G (c.fact 41 (f := .int "HEIGHT" 60) rfl)
    c_HIGHEST := kd_int X G (c.fact 42 (f := .int "HIGHEST" 16) rfl)
    c_LARGEST := kd_int X G (c.fact 43 (f := .int "LARGEST" 400) rfl)
    c_ONE := kd_tup X G (c.fact 44 (f := .glo "ONE") rfl) e.1.1.2 (DvR.str (DvR.int DvR.nil))
    c_PAIRS := kd_tup X G (c.fact 45 (f := .glo "PAIRS") rfl) e.1.2 (DvR.str (DvR.str (DvR.str (DvR.str DvR.nil))))
    c_PARTS := kd_int X G (c.fact 46 (f := .int "PARTS" 20000) rfl)
    c_POWERS := kd_int X G (c.fact 47 (f := .int "POWERS" 12) rfl)
    c_WHOLES := kd_int X G (c.fact 48 (f := .int "WHOLES" 1000000) rfl)
    c_ZERO := kd_tup X G (c.fact 49 (f := .glo "ZERO") rfl) e.2 (DvR.str (DvR.int DvR.nil))
    C_InvalidTerm := _
    gC_InvalidTerm := He.glo_ok X G (c.fact 50 (f := .glo "InvalidTerm") rfl)
    e_InvalidTerm := exck_of X G (c.fact 50 (f := .glo "InvalidTerm") rfl) (c.fact 51 (f := .exc "InvalidTerm") rfl)
    C_TooMany := _
    gC_TooMany := He.glo_ok X G (c.fact 52 (f := .glo "TooMany") rfl)
    o_TooMany := own_TooMany X G (SupV.isv_at i1 0 rfl) (SupV.isv_ok i2 0 rfl) (He.free_ok X G (c.fact 38 (f := .free "super") rfl)) (He.free_ok X G (c.fact 36 (f := .free "str") rfl))
    m_InvalidTerm_InvalidTerm := He.exm_ok (c.fact 53 (f := .exm "InvalidTerm" "InvalidTerm" true) rfl)
    m_InvalidTerm_TooMany := He.exm_ok (c.fact 54 (f := .exm "InvalidTerm" "TooMany" false) rfl)
    m_TooMany_InvalidTerm := He.exm_ok (c.fact 55 (f := .exm "TooMany" "InvalidTerm" false) rfl)
    m_TooMany_TooMany := He.exm_ok (c.fact 56 (f := .exm "TooMany" "TooMany" true) rfl) }⟩
end Q68
set_option maxHeartbeats 2000000
namespace Q68
open PySem PySem.Spec Pl
abbrev Cup (a b : Int) : D := .lst [.int a, .int b]
/-- a cup that may be rolled -/
def CupOk (c : D) : Prop := ∃ a b : Int, c = Cup a b ∧ 0 ≤ a ∧ 0 ≤ b ∧ b < 2147483543
theorem mul_r {i j : Int} (h : -(2 ^ 64) < j ∧ j < 2 ^ 64) : gMul (.int i) (.int j) = some (.int (i * j)) := by
  have e : mulOk i j = true := by
    unfold mulOk
    rw [decide_eq_true h]
    simp
  show (if mulOk i j = true then _ else _) = _
  rw [if_pos e]
theorem div_s {i j : Int} (h : 0 < j ∧ j < 1073741824) : gDiv (.int i) (.int j) = some (.int (i / j)) := by
  have e : divOk j = true := by unfold divOk; simp [h.1, h.2]
  show (if (divOk j || _) = true then _ else _) = _
  rw [e]
  rfl
theorem mod_s {i j : Int} (h : 0 < j) : gMod (.int i) (.int j) = some (.int (i % j)) := if_pos h
theorem gt_s {i j : Int} : gGt (.int i) (.int j) = some (.bl (decide (j < i))) := rfl
theorem lt_s {i j : Int} : gLt (.int i) (.int j) = some (.bl (decide (i < j))) := rfl
theorem le_s {i j : Int} : gLe (.int i) (.int j) = some (.bl (decide (i ≤ j))) := rfl
theorem ge_s {i j : Int} : gGe (.int i) (.int j) = some (.bl (decide (j ≤ i))) := rfl
theorem add_s {i j : Int} : gAdd (.int i) (.int j) = some (.int (i + j)) := rfl
theorem sub_s {i j : Int} : gSub (.int i) (.int j) = some (.int (i - j)) := rfl
theorem int_s {i : Int} : gInt [.int i] = some (.int i) := rfl
theorem roll_ok {c : D} (m : Int) (hc : CupOk c) (hm : 0 < m ∧ m < 1000000) : ∃ (r : Int) (c' : D), F__law_roll [c, .int m] = .ok (.int r, [some c']) ∧ 0 ≤ r ∧ r < m ∧ CupOk c' := by
  obtain ⟨a, b, rfl, ha, hb⟩ := hc
  by_cases h : 0 < a
  · refine ⟨a % m, Cup (a / m) b, ?_, Int.emod_nonneg _ (by omega), Int.emod_lt_of_pos _ hm.1, _, _, rfl, Int.ediv_nonneg ha (by omega), hb⟩
    have e := div_s (i := a) (j := m) ⟨hm.1, by omega⟩
    have e2 := mod_s (i := a) (j := m) hm.1
    simp [f0_e, put_so, K1_ok, K1_er, f1_e, K2b_ok, K2b_er, K2_ok, K2_er, f2_e, KN_ok, KN_er, fN_e, aNil_e, KAb_ok, KAb_er, KA_ok, KA_er, aCons_e, fvO_so, fv_e, KT_ok, KT_er, tV_e, KNt_ok, KNt_er, tNt_e, KAn_ok, KAn_er, tAn_e, KOr_ok, KOr_er, tOr'_e, KIe_ok, KIe_er, fIf_e, tYs_e, KEa_ok, eAn_e, KEo_ok, eOr_e, KCh3_ok, KCh3_er, KCh2_ok, KChO_so, KCh1_ok, KCh1_er, fCh_e, sNx_e, sBk_e, sCt_e, sRetN_e, sRaise_e, KS_nx, KS_rt, KS_bk, KS_ct, KS_er, sSeq_e, KIf_ok, KIf_er, sIf_e, KG_ok, KG_er, sAsg_e, nxt_so, gNm_e, KR_ok, KR_er, sRet_e, KD_ok, KD_er, sDrop_e, KP_ok, sPar_e, KF_ok, KF_er, sFor_e, KOw_ok, KOw_er, sOwn_e, KnL_ok, KnL_er, nLst_e, lsO_so, lstAt_e, KoIo_so, KoI_ok, oIx_e, KoL_so, oLen_e, KoAo_so, KoA_ok, KoA_er, oApp_e, KoEo_so, KoE_ok, oExt_e, KsIo2_so, KsIo_so, KsI2_ok, KsI_ok, KsI_er, sSetI_e, KC2_ok, KC2_er, KC_ok, KC_er, fCall_e, KI2_ok, KIo_so, KI_ok, fCallIo_e, KnC2_ok, KnC_ok, KnC_er, nCall_e, KsQ_t, KsQ_l, KsQ_f, iSeq_e, KsE_t, KsE_l, iEn_e, KR1_ok, iRn1_e, KL_ok, KL_er, lstE_e, Kc1_ok, Kc1_er, compN_e, Kc2_ok, Kc2_er, compN2_e, fitL_so, KoP_ok, oPt_e, oNo_e, Ksl3_ok, Ksl3_er, Ksl2_ok, Ksl2_er, Ksl1_ok, Ksl1_er, fSl_e, KTy_ok, KTy_er, sTry_e, KB_rt, KB_nx, KB_er, runB_e, outs_nil, outs_0, gsNil_e, gsCons_e, gTp_t, F__law_roll, d__law_roll, gt_s, int_s, e, e2, h, L2.atI, L2.ixN, outs]
  · let b' := (b * 31039 + 7973) % 2147483543
    have hb' : 0 ≤ b' ∧ b' < 2147483543 := ⟨Int.emod_nonneg _ (by omega), Int.emod_lt_of_pos _ (by omega)⟩
    let dp := (b' * (b' + 229)) % 2147483587
    refine ⟨(dp / 821) % m, Cup a b', ?_, Int.emod_nonneg _ (by omega), Int.emod_lt_of_pos _ hm.1, _, _, rfl, ha, hb'⟩
    have e1 : gMul (.int b) (.int 31039) = some (.int (b * 31039)) := mul_r (by omega)
    have e2 : gMul (.int b') (.int (b' + 229)) = some (.int (b' * (b' + 229))) := mul_r (by omega)
    have e3 := mod_s (i := dp / 821) (j := m) hm.1
    have e4 : gDiv (.int dp) (.int 821) = some (.int (dp / 821)) := div_s (by omega)
    have e5 : gMod (.int (b * 31039 + 7973)) (.int 2147483543) = some (.int b') := mod_s (by omega)
    have e6 : gMod (.int (b' * (b' + 229))) (.int 2147483587) = some (.int dp) := mod_s (by omega)
    clear_value b'
    clear_value dp
    simp [f0_e, put_so, K1_ok, K1_er, f1_e, K2b_ok, K2b_er, K2_ok, K2_er, f2_e, KN_ok, KN_er, fN_e, aNil_e, KAb_ok, KAb_er, KA_ok, KA_er, aCons_e, fvO_so, fv_e, KT_ok, KT_er, tV_e, KNt_ok, KNt_er, tNt_e, KAn_ok, KAn_er, tAn_e, KOr_ok, KOr_er, tOr'_e, KIe_ok, KIe_er, fIf_e, tYs_e, KEa_ok, eAn_e, KEo_ok, eOr_e, KCh3_ok, KCh3_er, KCh2_ok, KChO_so, KCh1_ok, KCh1_er, fCh_e, sNx_e, sBk_e, sCt_e, sRetN_e, sRaise_e, KS_nx, KS_rt, KS_bk, KS_ct, KS_er, sSeq_e, KIf_ok, KIf_er, sIf_e, KG_ok, KG_er, sAsg_e, nxt_so, gNm_e, KR_ok, KR_er, sRet_e, KD_ok, KD_er, sDrop_e, KP_ok, sPar_e, KF_ok, KF_er, sFor_e, KOw_ok, KOw_er, sOwn_e, KnL_ok, KnL_er, nLst_e, lsO_so, lstAt_e, KoIo_so, KoI_ok, oIx_e, KoL_so, oLen_e, KoAo_so, KoA_ok, KoA_er, oApp_e, KoEo_so, KoE_ok, oExt_e, KsIo2_so, KsIo_so, KsI2_ok, KsI_ok, KsI_er, sSetI_e, KC2_ok, KC2_er, KC_ok, KC_er, fCall_e, KI2_ok, KIo_so, KI_ok, fCallIo_e, KnC2_ok, KnC_ok, KnC_er, nCall_e, KsQ_t, KsQ_l, KsQ_f, iSeq_e, KsE_t, KsE_l, iEn_e, KR1_ok, iRn1_e, KL_ok, KL_er, lstE_e, Kc1_ok, Kc1_er, compN_e, Kc2_ok, Kc2_er, compN2_e, fitL_so, KoP_ok, oPt_e, oNo_e, Ksl3_ok, Ksl3_er, Ksl2_ok, Ksl2_er, Ksl1_ok, Ksl1_er, fSl_e, KTy_ok, KTy_er, sTry_e, KB_rt, KB_nx, KB_er, runB_e, outs_nil, outs_0, gsNil_e, gsCons_e, gTp_t, F__law_roll, d__law_roll, gt_s, int_s, add_s, e1, e2, e3, e4, e5, e6, h, L2.atI, L2.ixN, outs]
theorem atI_mem {α : Type} {xs : List α} {r : Int} (h0 : 0 ≤ r) (h1 : r < xs.length) : ∃ x, L2.atI xs r = some x ∧ x ∈ xs := by
  have e : L2.atI xs r = xs[r.toNat]? := by
    unfold L2.atI L2.ixN
    rw [if_pos h0, if_pos h1]
    rfl
  have hl : r.toNat < xs.length := by omega
  exact ⟨xs[r.toNat], by rw [e, List.getElem?_eq_getElem hl], List.getElem_mem _⟩
theorem some_ok {c : D} {xs : List D} (hc : CupOk c) (h0 : xs ≠ []) (h1 : xs.length < 1000000) : ∃ (d c' : D), F__law_some [c, .lst xs] = .ok (d, [some c']) ∧ d ∈ xs ∧ CupOk c' := by
  have hp : 0 < xs.length := List.length_pos_iff.mpr h0
  obtain ⟨r, c', e, r0, r1, hc'⟩ := roll_ok (xs.length : Int) hc (by omega)
  obtain ⟨x, ex, mx⟩ := atI_mem r0 r1
  refine ⟨x, c', ?_, mx, hc'⟩
  simp [f0_e, put_so, K1_ok, K1_er, f1_e, K2b_ok, K2b_er, K2_ok, K2_er, f2_e, KN_ok, KN_er, fN_e, aNil_e, KAb_ok, KAb_er, KA_ok, KA_er, aCons_e, fvO_so, fv_e, KT_ok, KT_er, tV_e, KNt_ok, KNt_er, tNt_e, KAn_ok, KAn_er, tAn_e, KOr_ok, KOr_er, tOr'_e, KIe_ok, KIe_er, fIf_e, tYs_e, KEa_ok, eAn_e, KEo_ok, eOr_e, KCh3_ok, KCh3_er, KCh2_ok, KChO_so, KCh1_ok, KCh1_er, fCh_e, sNx_e, sBk_e, sCt_e, sRetN_e, sRaise_e, KS_nx, KS_rt, KS_bk, KS_ct, KS_er, sSeq_e, KIf_ok, KIf_er, sIf_e, KG_ok, KG_er, sAsg_e, nxt_so, gNm_e, KR_ok, KR_er, sRet_e, KD_ok, KD_er, sDrop_e, KP_ok, sPar_e, KF_ok, KF_er, sFor_e, KOw_ok, KOw_er, sOwn_e, KnL_ok, KnL_er, nLst_e, lsO_so, lstAt_e, KoIo_so, KoI_ok, oIx_e, KoL_so, oLen_e, KoAo_so, KoA_ok, KoA_er, oApp_e, KoEo_so, KoE_ok, oExt_e, KsIo2_so, KsIo_so, KsI2_ok, KsI_ok, KsI_er, sSetI_e, KC2_ok, KC2_er, KC_ok, KC_er, fCall_e, KI2_ok, KIo_so, KI_ok, fCallIo_e, KnC2_ok, KnC_ok, KnC_er, nCall_e, KsQ_t, KsQ_l, KsQ_f, iSeq_e, KsE_t, KsE_l, iEn_e, KR1_ok, iRn1_e, KL_ok, KL_er, lstE_e, Kc1_ok, Kc1_er, compN_e, Kc2_ok, Kc2_er, compN2_e, fitL_so, KoP_ok, oPt_e, oNo_e, Ksl3_ok, Ksl3_er, Ksl2_ok, Ksl2_er, Ksl1_ok, Ksl1_er, fSl_e, KTy_ok, KTy_er, sTry_e, KB_rt, KB_nx, KB_er, runB_e, outs_nil, outs_0, gsNil_e, gsCons_e, gTp_t, F__law_some, d__law_some, gLen, e, gIx, ex, outs]
end Q68
set_option maxHeartbeats 2000000
namespace Q68
open PySem PySem.Spec Pl
abbrev sOk (s : Str) : Bool := (PyData.str s).canLay0
theorem cmp_str {a : Str} (h : sOk a = true) : cmpOk (.str a) = true := by
  show (true && ((PyData.str a).canLay0 && decide (0 ≤ 64))) = true
  rw [show (PyData.str a).canLay0 = true from h]
  rfl
theorem eq_ss {a b : Str} (ha : sOk a = true) (hb : sOk b = true) : gEq (.str a) (.str b) = some (.bl (a == b)) := by
  have e : (cmpOk (.str a) && cmpOk (.str b)) = true := by rw [cmp_str ha, cmp_str hb] <;> rfl
  show (if (cmpOk (.str a) && cmpOk (.str b)) = true then _ else _) = _
  rw [if_pos e]
  simp only [toPy, PyData.eqv]
theorem ne_ss {a b : Str} (ha : sOk a = true) (hb : sOk b = true) : gNe (.str a) (.str b) = some (.bl (!(a == b))) := by
  have e : (cmpOk (.str a) && cmpOk (.str b)) = true := by rw [cmp_str ha, cmp_str hb] <;> rfl
  show (if (cmpOk (.str a) && cmpOk (.str b)) = true then _ else _) = _
  rw [if_pos e]
  simp only [toPy, PyData.eqv]
theorem eq_ii {a b : Int} : gEq (.int a) (.int b) = some (.bl (a == b)) := by
  have e : (cmpOk (.int a) && cmpOk (.int b)) = true := rfl
  show (if (cmpOk (.int a) && cmpOk (.int b)) = true then _ else _) = _
  rw [if_pos e]
  simp only [toPy, PyData.eqv]
theorem ne_ii {a b : Int} : gNe (.int a) (.int b) = some (.bl (!(a == b))) := by
  have e : (cmpOk (.int a) && cmpOk (.int b)) = true := rfl
  show (if (cmpOk (.int a) && cmpOk (.int b)) = true then _ else _) = _
  rw [if_pos e]
  simp only [toPy, PyData.eqv]
/-! ### terms -/
def isTup : D → Bool
  | .tup _ => true
  | _ => false
def wh (lo hi : Int) : D → Bool
  | .int i => decide (lo ≤ i) && decide (i ≤ hi)
  | _ => false
def PAIRS : List Str := ["plus", "minus", "times", "over"]
def ONES : List Str := ["negative", "log", "exp"]
/-- a node of the right shape -/
def good : D → Bool
  | .tup [.str s] => s == ("x" : Str)
  | .tup [.str s, a] => if s == ("whole" : Str) then wh 0 1000000 a else ONES.contains s
  | .tup [.str s, a, b] => if s == ("power" : Str) then wh 0 12 b else PAIRS.contains s
  | _ => false
def within : D → List D
  | .tup [.str s, a] => if s == ("whole" : Str) then [] else [a]
  | .tup [.str s, a, b] => if s == ("power" : Str) then [a] else [a, b]
  | _ => []
theorem tup_s {ds : List D} {n : String} : gIsi [.tup ds, .ty n] = (isiD n (.tup ds)).map D.bl := rfl
theorem isi_tup {d : D} (h : flat d = true) : gIsi [d, .ty "tuple"] = some (.bl (isTup d)) := by
  cases d <;> first | rfl | cases h
theorem isi_str {d : D} (h : flat d = true) : gIsi [d, .ty "str"] = some (.bl (match d with | .str _ => true | _ => false)) := by
  cases d <;> first | rfl | cases h
theorem isi_int {d : D} (h : flat d = true) : gIsi [d, .ty "int"] = some (.bl (match d with | .int _ => true | .bl _ => true | _ => false)) := by
  cases d <;> first | rfl | cases h
theorem isi_bool {d : D} (h : flat d = true) : gIsi [d, .ty "bool"] = some (.bl (match d with | .bl _ => true | _ => false)) := by
  cases d <;> first | rfl | cases h
theorem is_integer_ok {d : D} (h : flat d = true) : F_is_integer [d] = .ok (.bl (match d with | .int _ => true | _ => false), []) := by
  cases d <;> first | (cases h; done) | simp [f0_e, put_so, K1_ok, K1_er, f1_e, K2b_ok, K2b_er, K2_ok, K2_er, f2_e, KN_ok, KN_er, fN_e, aNil_e, KAb_ok, KAb_er, KA_ok, KA_er, aCons_e, fvO_so, fv_e, KT_ok, KT_er, tV_e, KNt_ok, KNt_er, tNt_e, KAn_ok, KAn_er, tAn_e, KOr_ok, KOr_er, tOr'_e, KIe_ok, KIe_er, fIf_e, tYs_e, KEa_ok, eAn_e, KEo_ok, eOr_e, KCh3_ok, KCh3_er, KCh2_ok, KChO_so, KCh1_ok, KCh1_er, fCh_e, sNx_e, sBk_e, sCt_e, sRetN_e, sRaise_e, KS_nx, KS_rt, KS_bk, KS_ct, KS_er, sSeq_e, KIf_ok, KIf_er, sIf_e, KG_ok, KG_er, sAsg_e, nxt_so, gNm_e, KR_ok, KR_er, sRet_e, KD_ok, KD_er, sDrop_e, KP_ok, sPar_e, KF_ok, KF_er, sFor_e, KOw_ok, KOw_er, sOwn_e, KnL_ok, KnL_er, nLst_e, lsO_so, lstAt_e, KoIo_so, KoI_ok, oIx_e, KoL_so, oLen_e, KoAo_so, KoA_ok, KoA_er, oApp_e, KoEo_so, KoE_ok, oExt_e, KsIo2_so, KsIo_so, KsI2_ok, KsI_ok, KsI_er, sSetI_e, KC2_ok, KC2_er, KC_ok, KC_er, fCall_e, KI2_ok, KIo_so, KI_ok, fCallIo_e, KnC2_ok, KnC_ok, KnC_er, nCall_e, KsQ_t, KsQ_l, KsQ_f, iSeq_e, KsE_t, KsE_l, iEn_e, KR1_ok, iRn1_e, KL_ok, KL_er, lstE_e, Kc1_ok, Kc1_er, compN_e, Kc2_ok, Kc2_er, compN2_e, fitL_so, KoP_ok, oPt_e, oNo_e, Ksl3_ok, Ksl3_er, Ksl2_ok, Ksl2_er, Ksl1_ok, Ksl1_er, fSl_e, KTy_ok, KTy_er, sTry_e, KB_rt, KB_nx, KB_er, runB_e, outs_nil, outs_0, gsNil_e, gsCons_e, gTp_t, F_is_integer, d_is_integer, isi_int h, isi_bool h, eNt]
theorem is_whole_ok {d : D} {lo hi : Int} (h : flat d = true) : F_is_whole [d, .int lo, .int hi] = .ok (.bl (wh lo hi d), []) := by
  have e := is_integer_ok h
  cases d with
  | int i =>
    by_cases h1 : lo ≤ i <;> simp [f0_e, put_so, K1_ok, K1_er, f1_e, K2b_ok, K2b_er, K2_ok, K2_er, f2_e, KN_ok, KN_er, fN_e, aNil_e, KAb_ok, KAb_er, KA_ok, KA_er, aCons_e, fvO_so, fv_e, KT_ok, KT_er, tV_e, KNt_ok, KNt_er, tNt_e, KAn_ok, KAn_er, tAn_e, KOr_ok, KOr_er, tOr'_e, KIe_ok, KIe_er, fIf_e, tYs_e, KEa_ok, eAn_e, KEo_ok, eOr_e, KCh3_ok, KCh3_er, KCh2_ok, KChO_so, KCh1_ok, KCh1_er, fCh_e, sNx_e, sBk_e, sCt_e, sRetN_e, sRaise_e, KS_nx, KS_rt, KS_bk, KS_ct, KS_er, sSeq_e, KIf_ok, KIf_er, sIf_e, KG_ok, KG_er, sAsg_e, nxt_so, gNm_e, KR_ok, KR_er, sRet_e, KD_ok, KD_er, sDrop_e, KP_ok, sPar_e, KF_ok, KF_er, sFor_e, KOw_ok, KOw_er, sOwn_e, KnL_ok, KnL_er, nLst_e, lsO_so, lstAt_e, KoIo_so, KoI_ok, oIx_e, KoL_so, oLen_e, KoAo_so, KoA_ok, KoA_er, oApp_e, KoEo_so, KoE_ok, oExt_e, KsIo2_so, KsIo_so, KsI2_ok, KsI_ok, KsI_er, sSetI_e, KC2_ok, KC2_er, KC_ok, KC_er, fCall_e, KI2_ok, KIo_so, KI_ok, fCallIo_e, KnC2_ok, KnC_ok, KnC_er, nCall_e, KsQ_t, KsQ_l, KsQ_f, iSeq_e, KsE_t, KsE_l, iEn_e, KR1_ok, iRn1_e, KL_ok, KL_er, lstE_e, Kc1_ok, Kc1_er, compN_e, Kc2_ok, Kc2_er, compN2_e, fitL_so, KoP_ok, oPt_e, oNo_e, Ksl3_ok, Ksl3_er, Ksl2_ok, Ksl2_er, Ksl1_ok, Ksl1_er, fSl_e, KTy_ok, KTy_er, sTry_e, KB_rt, KB_nx, KB_er, runB_e, outs_nil, outs_0, gsNil_e, gsCons_e, gTp_t, F_is_whole, d_is_whole, e, le_s, h1, wh]
  | dct _ => cases h
  | ty _ => cases h
  | _ => simp [f0_e, put_so, K1_ok, K1_er, f1_e, K2b_ok, K2b_er, K2_ok, K2_er, f2_e, KN_ok, KN_er, fN_e, aNil_e, KAb_ok, KAb_er, KA_ok, KA_er, aCons_e, fvO_so, fv_e, KT_ok, KT_er, tV_e, KNt_ok, KNt_er, tNt_e, KAn_ok, KAn_er, tAn_e, KOr_ok, KOr_er, tOr'_e, KIe_ok, KIe_er, fIf_e, tYs_e, KEa_ok, eAn_e, KEo_ok, eOr_e, KCh3_ok, KCh3_er, KCh2_ok, KChO_so, KCh1_ok, KCh1_er, fCh_e, sNx_e, sBk_e, sCt_e, sRetN_e, sRaise_e, KS_nx, KS_rt, KS_bk, KS_ct, KS_er, sSeq_e, KIf_ok, KIf_er, sIf_e, KG_ok, KG_er, sAsg_e, nxt_so, gNm_e, KR_ok, KR_er, sRet_e, KD_ok, KD_er, sDrop_e, KP_ok, sPar_e, KF_ok, KF_er, sFor_e, KOw_ok, KOw_er, sOwn_e, KnL_ok, KnL_er, nLst_e, lsO_so, lstAt_e, KoIo_so, KoI_ok, oIx_e, KoL_so, oLen_e, KoAo_so, KoA_ok, KoA_er, oApp_e, KoEo_so, KoE_ok, oExt_e, KsIo2_so, KsIo_so, KsI2_ok, KsI_ok, KsI_er, sSetI_e, KC2_ok, KC2_er, KC_ok, KC_er, fCall_e, KI2_ok, KIo_so, KI_ok, fCallIo_e, KnC2_ok, KnC_ok, KnC_er, nCall_e, KsQ_t, KsQ_l, KsQ_f, iSeq_e, KsE_t, KsE_l, iEn_e, KR1_ok, iRn1_e, KL_ok, KL_er, lstE_e, Kc1_ok, Kc1_er, compN_e, Kc2_ok, Kc2_er, compN2_e, fitL_so, KoP_ok, oPt_e, oNo_e, Ksl3_ok, Ksl3_er, Ksl2_ok, Ksl2_er, Ksl1_ok, Ksl1_er, fSl_e, KTy_ok, KTy_er, sTry_e, KB_rt, KB_nx, KB_er, runB_e, outs_nil, outs_0, gsNil_e, gsCons_e, gTp_t, F_is_whole, d_is_whole, e, wh]
theorem is_tuple_ok {d : D} {lo hi : Int} (h : flat d = true) : F_is_tuple_of [d, .int lo, .int hi] = .ok (.bl (match d with | .tup ds => decide (lo ≤ (ds.length : Int)) && decide ((ds.length : Int) ≤ hi) | _ => false), []) := by
  have e := isi_tup h
  cases d with
  | tup ds =>
    by_cases h1 : lo ≤ (ds.length : Int) <;> simp [f0_e, put_so, K1_ok, K1_er, f1_e, K2b_ok, K2b_er, K2_ok, K2_er, f2_e, KN_ok, KN_er, fN_e, aNil_e, KAb_ok, KAb_er, KA_ok, KA_er, aCons_e, fvO_so, fv_e, KT_ok, KT_er, tV_e, KNt_ok, KNt_er, tNt_e, KAn_ok, KAn_er, tAn_e, KOr_ok, KOr_er, tOr'_e, KIe_ok, KIe_er, fIf_e, tYs_e, KEa_ok, eAn_e, KEo_ok, eOr_e, KCh3_ok, KCh3_er, KCh2_ok, KChO_so, KCh1_ok, KCh1_er, fCh_e, sNx_e, sBk_e, sCt_e, sRetN_e, sRaise_e, KS_nx, KS_rt, KS_bk, KS_ct, KS_er, sSeq_e, KIf_ok, KIf_er, sIf_e, KG_ok, KG_er, sAsg_e, nxt_so, gNm_e, KR_ok, KR_er, sRet_e, KD_ok, KD_er, sDrop_e, KP_ok, sPar_e, KF_ok, KF_er, sFor_e, KOw_ok, KOw_er, sOwn_e, KnL_ok, KnL_er, nLst_e, lsO_so, lstAt_e, KoIo_so, KoI_ok, oIx_e, KoL_so, oLen_e, KoAo_so, KoA_ok, KoA_er, oApp_e, KoEo_so, KoE_ok, oExt_e, KsIo2_so, KsIo_so, KsI2_ok, KsI_ok, KsI_er, sSetI_e, KC2_ok, KC2_er, KC_ok, KC_er, fCall_e, KI2_ok, KIo_so, KI_ok, fCallIo_e, KnC2_ok, KnC_ok, KnC_er, nCall_e, KsQ_t, KsQ_l, KsQ_f, iSeq_e, KsE_t, KsE_l, iEn_e, KR1_ok, iRn1_e, KL_ok, KL_er, lstE_e, Kc1_ok, Kc1_er, compN_e, Kc2_ok, Kc2_er, compN2_e, fitL_so, KoP_ok, oPt_e, oNo_e, Ksl3_ok, Ksl3_er, Ksl2_ok, Ksl2_er, Ksl1_ok, Ksl1_er, fSl_e, KTy_ok, KTy_er, sTry_e, KB_rt, KB_nx, KB_er, runB_e, outs_nil, outs_0, gsNil_e, gsCons_e, gTp_t, F_is_tuple_of, d_is_tuple_of, e, isTup, le_s, h1, gLen]
  | dct _ => cases h
  | ty _ => cases h
  | _ => simp [f0_e, put_so, K1_ok, K1_er, f1_e, K2b_ok, K2b_er, K2_ok, K2_er, f2_e, KN_ok, KN_er, fN_e, aNil_e, KAb_ok, KAb_er, KA_ok, KA_er, aCons_e, fvO_so, fv_e, KT_ok, KT_er, tV_e, KNt_ok, KNt_er, tNt_e, KAn_ok, KAn_er, tAn_e, KOr_ok, KOr_er, tOr'_e, KIe_ok, KIe_er, fIf_e, tYs_e, KEa_ok, eAn_e, KEo_ok, eOr_e, KCh3_ok, KCh3_er, KCh2_ok, KChO_so, KCh1_ok, KCh1_er, fCh_e, sNx_e, sBk_e, sCt_e, sRetN_e, sRaise_e, KS_nx, KS_rt, KS_bk, KS_ct, KS_er, sSeq_e, KIf_ok, KIf_er, sIf_e, KG_ok, KG_er, sAsg_e, nxt_so, gNm_e, KR_ok, KR_er, sRet_e, KD_ok, KD_er, sDrop_e, KP_ok, sPar_e, KF_ok, KF_er, sFor_e, KOw_ok, KOw_er, sOwn_e, KnL_ok, KnL_er, nLst_e, lsO_so, lstAt_e, KoIo_so, KoI_ok, oIx_e, KoL_so, oLen_e, KoAo_so, KoA_ok, KoA_er, oApp_e, KoEo_so, KoE_ok, oExt_e, KsIo2_so, KsIo_so, KsI2_ok, KsI_ok, KsI_er, sSetI_e, KC2_ok, KC2_er, KC_ok, KC_er, fCall_e, KI2_ok, KIo_so, KI_ok, fCallIo_e, KnC2_ok, KnC_ok, KnC_er, nCall_e, KsQ_t, KsQ_l, KsQ_f, iSeq_e, KsE_t, KsE_l, iEn_e, KR1_ok, iRn1_e, KL_ok, KL_er, lstE_e, Kc1_ok, Kc1_er, compN_e, Kc2_ok, Kc2_er, compN2_e, fitL_so, KoP_ok, oPt_e, oNo_e, Ksl3_ok, Ksl3_er, Ksl2_ok, Ksl2_er, Ksl1_ok, Ksl1_er, fSl_e, KTy_ok, KTy_er, sTry_e, KB_rt, KB_nx, KB_er, runB_e, outs_nil, outs_0, gsNil_e, gsCons_e, gTp_t, F_is_tuple_of, d_is_tuple_of, e, isTup]
end Q68
set_option maxHeartbeats 4000000
namespace Q68
open PySem PySem.Spec Pl
def NM : List Str := ["x", "whole", "negative", "log", "exp", "plus", "minus", "times", "over", "power", "y"]
mutual
/-- what may stand in a thing that is asked whether it is a term -/
def nice : D → Bool
  | .non => true
  | .bl _ => true
  | .int _ => true
  | .str s => NM.contains s
  | .tup ds => decide (ds.length ≤ 4) && niceAll ds
  | .lst ds => decide (ds.length ≤ 4) && niceAll ds
  | _ => false
def niceAll : List D → Bool
  | [] => true
  | d :: r => nice d && niceAll r
end
theorem niceAll_mem : ∀ {ds : List D}, niceAll ds = true → ∀ d ∈ ds, nice d = true
  | [], _, _, h => (nomatch h)
  | a :: r, h, d, m => by
    have h' : (nice a && niceAll r) = true := h
    rw [Bool.and_eq_true] at h'
    rcases List.mem_cons.mp m with rfl | m
    · exact h'.1
    · exact niceAll_mem h'.2 d m
theorem niceAll_of : ∀ {ds : List D}, (∀ d ∈ ds, nice d = true) → niceAll ds = true
  | [], _ => rfl
  | a :: r, h => by
    show (nice a && niceAll r) = true
    rw [h a (List.mem_cons_self ..), niceAll_of fun d m => h d (List.mem_cons_of_mem _ m)]
    rfl
mutual
theorem nice_flat : ∀ {d : D}, nice d = true → flat d = true
  | .non, _ => rfl
  | .bl _, _ => rfl
  | .int _, _ => rfl
  | .str _, _ => rfl
  | .tup ds, h => nice_flatA (by have h' : (decide (ds.length ≤ 4) && niceAll ds) = true := h; rw [Bool.and_eq_true] at h'; exact h'.2)
  | .lst ds, h => nice_flatA (by have h' : (decide (ds.length ≤ 4) && niceAll ds) = true := h; rw [Bool.and_eq_true] at h'; exact h'.2)
  | .fl _, h => by cases h
  | .dct _, h => by cases h
  | .ty _, h => by cases h
theorem nice_flatA : ∀ {ds : List D}, niceAll ds = true → flatAll ds = true
  | [], _ => rfl
  | a :: r, h => by
    have h' : (nice a && niceAll r) = true := h
    rw [Bool.and_eq_true] at h'
    show (flat a && flatAll r) = true
    rw [nice_flat h'.1, nice_flatA h'.2]
    rfl
end
theorem nm_cases {s : Str} (h : NM.contains s = true) : s = "x" ∨ s = "whole" ∨ s = "negative" ∨ s = "log" ∨ s = "exp" ∨ s = "plus" ∨ s = "minus" ∨ s = "times" ∨ s = "over" ∨ s = "power" ∨ s = "y" := by
  have m := List.contains_iff_mem.mp h
  simpa [NM] using m
theorem tup_cases {ds : List D} (h : nice (.tup ds) = true) : ds = [] ∨ (∃ a, ds = [a] ∧ nice a = true) ∨ (∃ a b, ds = [a, b] ∧ nice a = true ∧ nice b = true) ∨ (∃ a b c, ds = [a, b, c] ∧ nice a = true ∧ nice b = true ∧ nice c = true) ∨ ∃ a b c e, ds = [a, b, c, e] ∧ nice a = true := by
  have h' : (decide (ds.length ≤ 4) && niceAll ds) = true := h
  rw [Bool.and_eq_true] at h'
  have n := niceAll_mem h'.2
  have l := of_decide_eq_true h'.1
  match ds, n, l with
  | [], _, _ => exact .inl rfl
  | [a], n, _ => exact .inr (.inl ⟨a, rfl, n a (by simp)⟩)
  | [a, b], n, _ => exact .inr (.inr (.inl ⟨a, b, rfl, n a (by simp), n b (by simp)⟩))
  | [a, b, c], n, _ => exact .inr (.inr (.inr (.inl ⟨a, b, c, rfl, n a (by simp), n b (by simp), n c (by simp)⟩)))
  | [a, b, c, e], n, _ => exact .inr (.inr (.inr (.inr ⟨a, b, c, e, rfl, n a (by simp)⟩)))
  | _ :: _ :: _ :: _ :: _ :: _, _, l => simp at l
abbrev Both (d : D) : Prop := F_has_shape [d] = .ok (.bl (good d), []) ∧ True
theorem both_whole {i : Int} : Both (.tup [.str "whole", .int i]) := by
  have e := is_whole_ok (d := .int i) (lo := 0) (hi := 1000000) rfl
  have g : good (.tup [.str "whole", .int i]) = wh 0 1000000 (.int i) := by kernel_rfl
  have e1 : gEq (.str "whole") (.str "x") = some (.bl false) := by kernel_rfl
  have e2 : gEq (.str "whole") (.str "whole") = some (.bl true) := by kernel_rfl
  have e3 : F_is_tuple_of [.tup [.str "whole", .int i], .int 1, .int 3] = .ok (.bl true, []) := by kernel_rfl
  refine ⟨?_, ?_⟩
  · rw [g]
    simp [f0_e, put_so, K1_ok, K1_er, f1_e, K2b_ok, K2b_er, K2_ok, K2_er, f2_e, KN_ok, KN_er, fN_e, aNil_e, KAb_ok, KAb_er, KA_ok, KA_er, aCons_e, fvO_so, fv_e, KT_ok, KT_er, tV_e, KNt_ok, KNt_er, tNt_e, KAn_ok, KAn_er, tAn_e, KOr_ok, KOr_er, tOr'_e, KIe_ok, KIe_er, fIf_e, tYs_e, KEa_ok, eAn_e, KEo_ok, eOr_e, KCh3_ok, KCh3_er, KCh2_ok, KChO_so, KCh1_ok, KCh1_er, fCh_e, sNx_e, sBk_e, sCt_e, sRetN_e, sRaise_e, KS_nx, KS_rt, KS_bk, KS_ct, KS_er, sSeq_e, KIf_ok, KIf_er, sIf_e, KG_ok, KG_er, sAsg_e, nxt_so, gNm_e, KR_ok, KR_er, sRet_e, KD_ok, KD_er, sDrop_e, KP_ok, sPar_e, KF_ok, KF_er, sFor_e, KOw_ok, KOw_er, sOwn_e, KnL_ok, KnL_er, nLst_e, lsO_so, lstAt_e, KoIo_so, KoI_ok, oIx_e, KoL_so, oLen_e, KoAo_so, KoA_ok, KoA_er, oApp_e, KoEo_so, KoE_ok, oExt_e, KsIo2_so, KsIo_so, KsI2_ok, KsI_ok, KsI_er, sSetI_e, KC2_ok, KC2_er, KC_ok, KC_er, fCall_e, KI2_ok, KIo_so, KI_ok, fCallIo_e, KnC2_ok, KnC_ok, KnC_er, nCall_e, KsQ_t, KsQ_l, KsQ_f, iSeq_e, KsE_t, KsE_l, iEn_e, KR1_ok, iRn1_e, KL_ok, KL_er, lstE_e, Kc1_ok, Kc1_er, compN_e, Kc2_ok, Kc2_er, compN2_e, fitL_so, KoP_ok, oPt_e, oNo_e, Ksl3_ok, Ksl3_er, Ksl2_ok, Ksl2_er, Ksl1_ok, Ksl1_er, fSl_e, KTy_ok, KTy_er, sTry_e, KB_rt, KB_nx, KB_er, runB_e, outs_nil, outs_0, gsNil_e, gsCons_e, gTp_t, F_has_shape, d_has_shape, e, e1, e2, e3, gIx, L2.atI, L2.ixN, gLen, eq_ii, gIsi, isTyD, isiD]
  · trivial
theorem both_power {a : D} {i : Int} : Both (.tup [.str "power", a, .int i]) := by
  have e := is_whole_ok (d := .int i) (lo := 0) (hi := 12) rfl
  have g : good (.tup [.str "power", a, .int i]) = wh 0 12 (.int i) := by kernel_rfl
  have e1 : gEq (.str "power") (.str "x") = some (.bl false) := by kernel_rfl
  have e2 : gEq (.str "power") (.str "whole") = some (.bl false) := by kernel_rfl
  have e7 : gEq (.str "power") (.str "power") = some (.bl true) := by kernel_rfl
  have e3 : F_is_tuple_of [.tup [.str "power", a, .int i], .int 1, .int 3] = .ok (.bl true, []) := by kernel_rfl
  refine ⟨?_, ?_⟩
  · rw [g]
    simp [f0_e, put_so, K1_ok, K1_er, f1_e, K2b_ok, K2b_er, K2_ok, K2_er, f2_e, KN_ok, KN_er, fN_e, aNil_e, KAb_ok, KAb_er, KA_ok, KA_er, aCons_e, fvO_so, fv_e, KT_ok, KT_er, tV_e, KNt_ok, KNt_er, tNt_e, KAn_ok, KAn_er, tAn_e, KOr_ok, KOr_er, tOr'_e, KIe_ok, KIe_er, fIf_e, tYs_e, KEa_ok, eAn_e, KEo_ok, eOr_e, KCh3_ok, KCh3_er, KCh2_ok, KChO_so, KCh1_ok, KCh1_er, fCh_e, sNx_e, sBk_e, sCt_e, sRetN_e, sRaise_e, KS_nx, KS_rt, KS_bk, KS_ct, KS_er, sSeq_e, KIf_ok, KIf_er, sIf_e, KG_ok, KG_er, sAsg_e, nxt_so, gNm_e, KR_ok, KR_er, sRet_e, KD_ok, KD_er, sDrop_e, KP_ok, sPar_e, KF_ok, KF_er, sFor_e, KOw_ok, KOw_er, sOwn_e, KnL_ok, KnL_er, nLst_e, lsO_so, lstAt_e, KoIo_so, KoI_ok, oIx_e, KoL_so, oLen_e, KoAo_so, KoA_ok, KoA_er, oApp_e, KoEo_so, KoE_ok, oExt_e, KsIo2_so, KsIo_so, KsI2_ok, KsI_ok, KsI_er, sSetI_e, KC2_ok, KC2_er, KC_ok, KC_er, fCall_e, KI2_ok, KIo_so, KI_ok, fCallIo_e, KnC2_ok, KnC_ok, KnC_er, nCall_e, KsQ_t, KsQ_l, KsQ_f, iSeq_e, KsE_t, KsE_l, iEn_e, KR1_ok, iRn1_e, KL_ok, KL_er, lstE_e, Kc1_ok, Kc1_er, compN_e, Kc2_ok, Kc2_er, compN2_e, fitL_so, KoP_ok, oPt_e, oNo_e, Ksl3_ok, Ksl3_er, Ksl2_ok, Ksl2_er, Ksl1_ok, Ksl1_er, fSl_e, KTy_ok, KTy_er, sTry_e, KB_rt, KB_nx, KB_er, runB_e, outs_nil, outs_0, gsNil_e, gsCons_e, gTp_t, F_has_shape, d_has_shape, e, e1, e2, e3, e7, gIx, L2.atI, L2.ixN, gLen, eq_ii, gIsi, isTyD, isiD]
  · trivial
theorem both_1 {a : D} (h : nice a = true) : Both (.tup [a]) := by
  cases a with
  | str s => rcases nm_cases h with rfl | rfl | rfl | rfl | rfl | rfl | rfl | rfl | rfl | rfl | rfl <;> exact ⟨by kernel_rfl, trivial⟩
  | fl _ => cases h
  | dct _ => cases h
  | ty _ => cases h
  | _ => exact ⟨by kernel_rfl, trivial⟩
theorem both_2 {a b : D} (h : nice a = true) (hb : nice b = true) : Both (.tup [a, b]) := by
  cases a with
  | str s =>
    rcases nm_cases h with rfl | rfl | rfl | rfl | rfl | rfl | rfl | rfl | rfl | rfl | rfl
    · exact ⟨by kernel_rfl, trivial⟩
    · cases b with
      | int i => exact both_whole
      | fl _ => cases hb
      | dct _ => cases hb
      | ty _ => cases hb
      | _ => exact ⟨by kernel_rfl, trivial⟩
    · exact ⟨by kernel_rfl, trivial⟩
    · exact ⟨by kernel_rfl, trivial⟩
    · exact ⟨by kernel_rfl, trivial⟩
    · exact ⟨by kernel_rfl, trivial⟩
    · exact ⟨by kernel_rfl, trivial⟩
    · exact ⟨by kernel_rfl, trivial⟩
    · exact ⟨by kernel_rfl, trivial⟩
    · exact ⟨by kernel_rfl, trivial⟩
    · exact ⟨by kernel_rfl, trivial⟩
  | fl _ => cases h
  | dct _ => cases h
  | ty _ => cases h
  | _ => exact ⟨by kernel_rfl, trivial⟩
theorem both_3 {a b c : D} (h : nice a = true) (hc : nice c = true) : Both (.tup [a, b, c]) := by
  cases a with
  | str s =>
    rcases nm_cases h with rfl | rfl | rfl | rfl | rfl | rfl | rfl | rfl | rfl | rfl | rfl
    · exact ⟨by kernel_rfl, trivial⟩
    · exact ⟨by kernel_rfl, trivial⟩
    · exact ⟨by kernel_rfl, trivial⟩
    · exact ⟨by kernel_rfl, trivial⟩
    · exact ⟨by kernel_rfl, trivial⟩
    · exact ⟨by kernel_rfl, trivial⟩
    · exact ⟨by kernel_rfl, trivial⟩
    · exact ⟨by kernel_rfl, trivial⟩
    · exact ⟨by kernel_rfl, trivial⟩
    · cases c with
      | int i => exact both_power
      | fl _ => cases hc
      | dct _ => cases hc
      | ty _ => cases hc
      | _ => exact ⟨by kernel_rfl, trivial⟩
    · exact ⟨by kernel_rfl, trivial⟩
  | fl _ => cases h
  | dct _ => cases h
  | ty _ => cases h
  | _ => exact ⟨by kernel_rfl, trivial⟩
theorem both_4 {a b c e : D} (h : nice a = true) : Both (.tup [a, b, c, e]) := by
  cases a with
  | str s => rcases nm_cases h with rfl | rfl | rfl | rfl | rfl | rfl | rfl | rfl | rfl | rfl | rfl <;> exact ⟨by kernel_rfl, trivial⟩
  | fl _ => cases h
  | dct _ => cases h
  | ty _ => cases h
  | _ => exact ⟨by kernel_rfl, trivial⟩
theorem both_ok {d : D} (h : nice d = true) : Both d := by
  cases d with
  | tup ds =>
    rcases tup_cases h with rfl | ⟨a, rfl, ha⟩ | ⟨a, b, rfl, ha, hb⟩ | ⟨a, b, c, rfl, ha, hb, hc⟩ | ⟨a, b, c, e, rfl, ha⟩
    · exact ⟨by kernel_rfl, trivial⟩
    · exact both_1 ha
    · exact both_2 ha hb
    · exact both_3 ha hc
    · exact both_4 ha
  | fl _ => cases h
  | dct _ => cases h
  | ty _ => cases h
  | _ => exact ⟨by kernel_rfl, trivial⟩
/-- the forms of a good node -/
theorem good_cases {d : D} (h : nice d = true) (g : good d = true) : d = .tup [.str "x"] ∨ (∃ i : Int, d = .tup [.str "whole", .int i] ∧ 0 ≤ i ∧ i ≤ 1000000) ∨ (∃ s a, d = .tup [.str s, a] ∧ s ∈ ONES ∧ nice a = true) ∨ (∃ a, ∃ i : Int, d = .tup [.str "power", a, .int i] ∧ 0 ≤ i ∧ i ≤ 12 ∧ nice a = true) ∨ ∃ s a b, d = .tup [.str s, a, b] ∧ s ∈ PAIRS ∧ nice a = true ∧ nice b = true := by
  cases d with
  | tup ds =>
    rcases tup_cases h with rfl | ⟨a, rfl, ha⟩ | ⟨a, b, rfl, ha, hb⟩ | ⟨a, b, c, rfl, ha, hb, hc⟩ | ⟨a, b, c, e, rfl, ha⟩
    · cases g
    · cases a with
      | str s =>
        have e : s = "x" := eq_of_beq g
        exact .inl (by rw [e])
      | _ => cases g
    · cases a with
      | str s =>
        have g' : (if s == ("whole" : Str) then wh 0 1000000 b else ONES.contains s) = true := g
        split at g'
        · rename_i e
          have e' := eq_of_beq e
          subst e'
          cases b with
          | int i =>
            have g2 : (decide (0 ≤ i) && decide (i ≤ 1000000)) = true := g'
            rw [Bool.and_eq_true] at g2
            exact .inr (.inl ⟨i, rfl, of_decide_eq_true g2.1, of_decide_eq_true g2.2⟩)
          | _ => cases g'
        · exact .inr (.inr (.inl ⟨s, b, rfl, List.contains_iff_mem.mp g', hb⟩))
      | _ => cases g
    · cases a with
      | str s =>
        have g' : (if s == ("power" : Str) then wh 0 12 c else PAIRS.contains s) = true := g
        split at g'
        · rename_i e
          have e' := eq_of_beq e
          subst e'
          cases c with
          | int i =>
            have g2 : (decide (0 ≤ i) && decide (i ≤ 12)) = true := g'
            rw [Bool.and_eq_true] at g2
            exact .inr (.inr (.inr (.inl ⟨b, i, rfl, of_decide_eq_true g2.1, of_decide_eq_true g2.2, hb⟩)))
          | _ => cases g'
        · exact .inr (.inr (.inr (.inr ⟨s, b, c, rfl, List.contains_iff_mem.mp g', hb, hc⟩)))
      | _ => cases g
    · cases a <;> cases g
  | _ => cases g
theorem ones_cases {s : Str} (h : s ∈ ONES) : s = "negative" ∨ s = "log" ∨ s = "exp" := by simpa [ONES] using h
theorem pairs_cases {s : Str} (h : s ∈ PAIRS) : s = "plus" ∨ s = "minus" ∨ s = "times" ∨ s = "over" := by simpa [PAIRS] using h
theorem parts_ok {d : D} (h : nice d = true) (g : good d = true) : F_own_parts [d] = .ok (.tup (within d), []) ∧ True ∧ (∀ p ∈ within d, nice p = true) ∧ (within d).length ≤ 2 := by
  rcases good_cases h g with rfl | ⟨i, rfl, _, _⟩ | ⟨s, a, rfl, hs, ha⟩ | ⟨a, i, rfl, _, _, ha⟩ | ⟨s, a, b, rfl, hs, ha, hb⟩
  · exact ⟨by kernel_rfl, trivial, fun p m => (nomatch m), Nat.le_of_ble_eq_true (by kernel_rfl)⟩
  · exact ⟨by kernel_rfl, trivial, fun p m => (nomatch m), Nat.le_of_ble_eq_true (by kernel_rfl)⟩
  · rcases ones_cases hs with rfl | rfl | rfl <;> exact ⟨by kernel_rfl, trivial, fun p m => (List.mem_singleton.mp m) ▸ ha, Nat.le_of_ble_eq_true (by kernel_rfl)⟩
  · exact ⟨by kernel_rfl, trivial, fun p m => (List.mem_singleton.mp m) ▸ ha, Nat.le_of_ble_eq_true (by kernel_rfl)⟩
  · rcases pairs_cases hs with rfl | rfl | rfl | rfl <;> exact ⟨by kernel_rfl, trivial, fun p m => (List.mem_cons.mp m).elim (fun e => e ▸ ha) fun m => (List.mem_singleton.mp m) ▸ hb, Nat.le_of_ble_eq_true (by kernel_rfl)⟩
end Q68
set_option maxHeartbeats 4000000
namespace Q68
open PySem PySem.Spec Pl
theorem lnOk_of {n : Nat} (h : n ≤ 16777216) : lnOk n = true := by
  unfold lnOk
  rw [sizeLine_eq]
  exact decide_eq_true h
theorem inner_id {X Y : Option D} : ∀ ps : List D, loopC (gNm 2) tYs (fv 2) [2] ps [X, Y, none] = some (ps, [X, Y, none])
  | [] => rfl
  | p :: ps => by
    have ih := inner_id (X := X) (Y := Y) ps
    show ((loopC (gNm 2) tYs (fv 2) [2] ps [X, Y, none]).bind fun z => some (p :: z.1, z.2)) = _
    rw [ih] <;> rfl
/-- nodes that are all of the right shape -/
def Lv (L : List D) : Prop := ∀ d ∈ L, nice d = true
theorem Lv.tail {d : D} {L : List D} (h : Lv (d :: L)) : Lv L := fun x m => h x (List.mem_cons_of_mem _ m)
theorem below_loop {X : Option D} : ∀ L : List D, Lv L → (∀ d ∈ L, good d = true) →
    loopC2 (gNm 1) tYs (iSeq (fCall F_own_parts (aCons (fv 1) aNil))) (gNm 2) tYs (fv 2) [1, 2] [2] L [X, none, none] = some (L.flatMap within, [X, none, none])
  | [], _, _ => rfl
  | d :: L, h, g => by
    have ih := below_loop (X := X) L h.tail fun x m => g x (List.mem_cons_of_mem _ m)
    have e := (parts_ok (h d (List.mem_cons_self ..)) (g d (List.mem_cons_self ..))).1
    have e1 : iSeq (fCall F_own_parts (aCons (fv 1) aNil)) [X, some d, none] = .ok (within d, [X, some d, none]) := by simp [f0_e, put_so, K1_ok, K1_er, f1_e, K2b_ok, K2b_er, K2_ok, K2_er, f2_e, KN_ok, KN_er, fN_e, aNil_e, KAb_ok, KAb_er, KA_ok, KA_er, aCons_e, fvO_so, fv_e, KT_ok, KT_er, tV_e, KNt_ok, KNt_er, tNt_e, KAn_ok, KAn_er, tAn_e, KOr_ok, KOr_er, tOr'_e, KIe_ok, KIe_er, fIf_e, tYs_e, KEa_ok, eAn_e, KEo_ok, eOr_e, KCh3_ok, KCh3_er, KCh2_ok, KChO_so, KCh1_ok, KCh1_er, fCh_e, sNx_e, sBk_e, sCt_e, sRetN_e, sRaise_e, KS_nx, KS_rt, KS_bk, KS_ct, KS_er, sSeq_e, KIf_ok, KIf_er, sIf_e, KG_ok, KG_er, sAsg_e, nxt_so, gNm_e, KR_ok, KR_er, sRet_e, KD_ok, KD_er, sDrop_e, KP_ok, sPar_e, KF_ok, KF_er, sFor_e, KOw_ok, KOw_er, sOwn_e, KnL_ok, KnL_er, nLst_e, lsO_so, lstAt_e, KoIo_so, KoI_ok, oIx_e, KoL_so, oLen_e, KoAo_so, KoA_ok, KoA_er, oApp_e, KoEo_so, KoE_ok, oExt_e, KsIo2_so, KsIo_so, KsI2_ok, KsI_ok, KsI_er, sSetI_e, KC2_ok, KC2_er, KC_ok, KC_er, fCall_e, KI2_ok, KIo_so, KI_ok, fCallIo_e, KnC2_ok, KnC_ok, KnC_er, nCall_e, KsQ_t, KsQ_l, KsQ_f, iSeq_e, KsE_t, KsE_l, iEn_e, KR1_ok, iRn1_e, KL_ok, KL_er, lstE_e, Kc1_ok, Kc1_er, compN_e, Kc2_ok, Kc2_er, compN2_e, fitL_so, KoP_ok, oPt_e, oNo_e, Ksl3_ok, Ksl3_er, Ksl2_ok, Ksl2_er, Ksl1_ok, Ksl1_er, fSl_e, KTy_ok, KTy_er, sTry_e, KB_rt, KB_nx, KB_er, runB_e, outs_nil, outs_0, gsNil_e, gsCons_e, gTp_t, e]
    show ((ne (iSeq (fCall F_own_parts (aCons (fv 1) aNil)) [X, some d, none])).bind fun p => (loopC (gNm 2) tYs (fv 2) [2] p.1 (wipeL p.2 [2])).bind fun z => (loopC2 (gNm 1) tYs (iSeq (fCall F_own_parts (aCons (fv 1) aNil))) (gNm 2) tYs (fv 2) [1, 2] [2] L (wipeL z.2 [1, 2])).bind fun y => some (z.1 ++ y.1, y.2)) = _
    rw [e1]
    show ((loopC (gNm 2) tYs (fv 2) [2] (within d) [X, some d, none]).bind fun z => (loopC2 (gNm 1) tYs (iSeq (fCall F_own_parts (aCons (fv 1) aNil))) (gNm 2) tYs (fv 2) [1, 2] [2] L (wipeL z.2 [1, 2])).bind fun y => some (z.1 ++ y.1, y.2)) = _
    rw [inner_id]
    show ((loopC2 (gNm 1) tYs (iSeq (fCall F_own_parts (aCons (fv 1) aNil))) (gNm 2) tYs (fv 2) [1, 2] [2] L [X, none, none]).bind fun y => some (within d ++ y.1, y.2)) = _
    rw [ih, List.flatMap_cons] <;> rfl
theorem below_len : ∀ L : List D, Lv L → (∀ d ∈ L, good d = true) → (L.flatMap within).length ≤ 2 * L.length
  | [], _, _ => Nat.zero_le _
  | d :: L, h, g => by
    have ih := below_len L h.tail fun x m => g x (List.mem_cons_of_mem _ m)
    have e := (parts_ok (h d (List.mem_cons_self ..)) (g d (List.mem_cons_self ..))).2.2.2
    rw [List.flatMap_cons, List.length_append, List.length_cons]
    omega
theorem below_lv {L : List D} (h : Lv L) (g : ∀ d ∈ L, good d = true) : Lv (L.flatMap within) := fun x m => by
  obtain ⟨d, m1, m2⟩ := List.mem_flatMap.mp m
  exact (parts_ok (h d m1) (g d m1)).2.2.1 x m2
theorem level_below_ok {L : List D} (h : Lv L) (g : ∀ d ∈ L, good d = true) (hl : L.length ≤ 20000) : F_level_below [.lst L] = .ok (.lst (L.flatMap within), []) := by
  have e := below_loop (X := some (.lst L)) L h g
  have l := below_len L h g
  have ln : lnOk (L.flatMap within).length = true := lnOk_of (by omega)
  generalize L.flatMap within = B at *
  simp [f0_e, put_so, K1_ok, K1_er, f1_e, K2b_ok, K2b_er, K2_ok, K2_er, f2_e, KN_ok, KN_er, fN_e, aNil_e, KAb_ok, KAb_er, KA_ok, KA_er, aCons_e, fvO_so, fv_e, KT_ok, KT_er, tV_e, KNt_ok, KNt_er, tNt_e, KAn_ok, KAn_er, tAn_e, KOr_ok, KOr_er, tOr'_e, KIe_ok, KIe_er, fIf_e, tYs_e, KEa_ok, eAn_e, KEo_ok, eOr_e, KCh3_ok, KCh3_er, KCh2_ok, KChO_so, KCh1_ok, KCh1_er, fCh_e, sNx_e, sBk_e, sCt_e, sRetN_e, sRaise_e, KS_nx, KS_rt, KS_bk, KS_ct, KS_er, sSeq_e, KIf_ok, KIf_er, sIf_e, KG_ok, KG_er, sAsg_e, nxt_so, gNm_e, KR_ok, KR_er, sRet_e, KD_ok, KD_er, sDrop_e, KP_ok, sPar_e, KF_ok, KF_er, sFor_e, KOw_ok, KOw_er, sOwn_e, KnL_ok, KnL_er, nLst_e, lsO_so, lstAt_e, KoIo_so, KoI_ok, oIx_e, KoL_so, oLen_e, KoAo_so, KoA_ok, KoA_er, oApp_e, KoEo_so, KoE_ok, oExt_e, KsIo2_so, KsIo_so, KsI2_ok, KsI_ok, KsI_er, sSetI_e, KC2_ok, KC2_er, KC_ok, KC_er, fCall_e, KI2_ok, KIo_so, KI_ok, fCallIo_e, KnC2_ok, KnC_ok, KnC_er, nCall_e, KsQ_t, KsQ_l, KsQ_f, iSeq_e, KsE_t, KsE_l, iEn_e, KR1_ok, iRn1_e, KL_ok, KL_er, lstE_e, Kc1_ok, Kc1_er, compN_e, Kc2_ok, Kc2_er, compN2_e, fitL_so, KoP_ok, oPt_e, oNo_e, Ksl3_ok, Ksl3_er, Ksl2_ok, Ksl2_er, Ksl1_ok, Ksl1_er, fSl_e, KTy_ok, KTy_er, sTry_e, KB_rt, KB_nx, KB_er, runB_e, outs_nil, outs_0, gsNil_e, gsCons_e, gTp_t, F_level_below, d_level_below, wipeL, e, ln, resL]
/-- all of the right shape, up to so many, level by level -/
def fits (P : Nat) : Nat → List D → Nat → Bool
  | 0, _, _ => false
  | n + 1, L, c => if P < c + L.length then false else if L.all good = false then false else if (L.flatMap within).length = 0 then true else fits P n (L.flatMap within) (c + L.length)
theorem shapes_loop {X Y Z U V W : Option D} : ∀ L : List D, Lv L → loopC (gNm 6) tYs (fCall F_has_shape (aCons (fv 6) aNil)) [6] L [X, Y, Z, U, V, W, none] = some (L.map fun d => .bl (good d), [X, Y, Z, U, V, W, none])
  | [], _ => rfl
  | d :: L, h => by
    have ih := shapes_loop (X := X) (Y := Y) (Z := Z) (U := U) (V := V) (W := W) L h.tail
    have e := (both_ok (h d (List.mem_cons_self ..))).1
    have e1 : fCall F_has_shape (aCons (fv 6) aNil) [X, Y, Z, U, V, W, some d] = .ok (.bl (good d), [X, Y, Z, U, V, W, some d]) := by simp [f0_e, put_so, K1_ok, K1_er, f1_e, K2b_ok, K2b_er, K2_ok, K2_er, f2_e, KN_ok, KN_er, fN_e, aNil_e, KAb_ok, KAb_er, KA_ok, KA_er, aCons_e, fvO_so, fv_e, KT_ok, KT_er, tV_e, KNt_ok, KNt_er, tNt_e, KAn_ok, KAn_er, tAn_e, KOr_ok, KOr_er, tOr'_e, KIe_ok, KIe_er, fIf_e, tYs_e, KEa_ok, eAn_e, KEo_ok, eOr_e, KCh3_ok, KCh3_er, KCh2_ok, KChO_so, KCh1_ok, KCh1_er, fCh_e, sNx_e, sBk_e, sCt_e, sRetN_e, sRaise_e, KS_nx, KS_rt, KS_bk, KS_ct, KS_er, sSeq_e, KIf_ok, KIf_er, sIf_e, KG_ok, KG_er, sAsg_e, nxt_so, gNm_e, KR_ok, KR_er, sRet_e, KD_ok, KD_er, sDrop_e, KP_ok, sPar_e, KF_ok, KF_er, sFor_e, KOw_ok, KOw_er, sOwn_e, KnL_ok, KnL_er, nLst_e, lsO_so, lstAt_e, KoIo_so, KoI_ok, oIx_e, KoL_so, oLen_e, KoAo_so, KoA_ok, KoA_er, oApp_e, KoEo_so, KoE_ok, oExt_e, KsIo2_so, KsIo_so, KsI2_ok, KsI_ok, KsI_er, sSetI_e, KC2_ok, KC2_er, KC_ok, KC_er, fCall_e, KI2_ok, KIo_so, KI_ok, fCallIo_e, KnC2_ok, KnC_ok, KnC_er, nCall_e, KsQ_t, KsQ_l, KsQ_f, iSeq_e, KsE_t, KsE_l, iEn_e, KR1_ok, iRn1_e, KL_ok, KL_er, lstE_e, Kc1_ok, Kc1_er, compN_e, Kc2_ok, Kc2_er, compN2_e, fitL_so, KoP_ok, oPt_e, oNo_e, Ksl3_ok, Ksl3_er, Ksl2_ok, Ksl2_er, Ksl1_ok, Ksl1_er, fSl_e, KTy_ok, KTy_er, sTry_e, KB_rt, KB_nx, KB_er, runB_e, outs_nil, outs_0, gsNil_e, gsCons_e, gTp_t, e]
    show ((ne (fCall F_has_shape (aCons (fv 6) aNil) [X, Y, Z, U, V, W, some d])).bind fun r => (loopC (gNm 6) tYs (fCall F_has_shape (aCons (fv 6) aNil)) [6] L (wipeL r.2 [6])).bind fun z => some (r.1 :: z.1, z.2)) = _
    rw [e1]
    show ((loopC (gNm 6) tYs (fCall F_has_shape (aCons (fv 6) aNil)) [6] L [X, Y, Z, U, V, W, none]).bind fun z => some (.bl (good d) :: z.1, z.2)) = _
    rw [ih] <;> rfl
theorem bls_map : ∀ L : List D, blsD (L.map fun d => D.bl (good d)) = some (L.map good)
  | [] => rfl
  | d :: L => by
    show (blsD (L.map fun d => D.bl (good d))).map (good d :: ·) = _
    rw [bls_map L] <;> rfl
theorem gall_ok (L : List D) : gAll [.lst (L.map fun d => .bl (good d))] = some (.bl (L.all good)) := by
  show (blsD (L.map fun d => D.bl (good d))).map (fun ns => D.bl (ns.all id)) = _
  rw [bls_map]
  show some (D.bl ((L.map good).all id)) = _
  rw [List.all_map] <;> rfl
/-- the loop's body -/
def bodyF : SD := (sSeq (sAsg (f2 gAdd (fv 4) (fN gLen (aCons (fv 3) aNil))) (gNm 4)) (sSeq (sIf (tOr' (tV (f2 gGt (fv 4) (fv 2))) (tNt (tV (fN gAll (aCons (lstE (compN (iSeq (fv 3)) (gNm 6) tYs (fCall F_has_shape (aCons (fv 6) aNil)) [6])) aNil))))) (sRet (f0 (.bl false))) sNx) (sSeq (sAsg (fCall F_level_below (aCons (fv 3) aNil)) (gNm 3)) (sIf (tV (f2 gEq (fN gLen (aCons (fv 3) aNil)) (f0 (.int 0)))) (sRet (f0 (.bl true))) sNx))))
theorem fits_turn {V N Z : Option D} {P c : Nat} {L : List D} (hL : Lv L) (hP : P ≤ 20000) :
    bodyF [V, N, some (.int P), some (.lst L), some (.int c), Z, none] =
      if P < c + L.length then .ok (.rt (.bl false), [V, N, some (.int P), some (.lst L), some (.int (c + L.length : Nat)), Z, none])
      else if L.all good = false then .ok (.rt (.bl false), [V, N, some (.int P), some (.lst L), some (.int (c + L.length : Nat)), Z, none])
      else if (L.flatMap within).length = 0 then .ok (.rt (.bl true), [V, N, some (.int P), some (.lst (L.flatMap within)), some (.int (c + L.length : Nat)), Z, none])
      else .ok (.nx, [V, N, some (.int P), some (.lst (L.flatMap within)), some (.int (c + L.length : Nat)), Z, none]) := by
  have e0 : ((c : Int) + (L.length : Int)) = ((c + L.length : Nat) : Int) := by omega
  have e1 : decide ((P : Int) < ((c + L.length : Nat) : Int)) = decide (P < c + L.length) := by simp only [Int.ofNat_lt]
  by_cases h1 : P < c + L.length
  · rw [if_pos h1]
    simp only [f0_e, put_so, K1_ok, K1_er, f1_e, K2b_ok, K2b_er, K2_ok, K2_er, f2_e, KN_ok, KN_er, fN_e, aNil_e, KAb_ok, KAb_er, KA_ok, KA_er, aCons_e, fvO_so, fv_e, KT_ok, KT_er, tV_e, KNt_ok, KNt_er, tNt_e, KAn_ok, KAn_er, tAn_e, KOr_ok, KOr_er, tOr'_e, KIe_ok, KIe_er, fIf_e, tYs_e, KEa_ok, eAn_e, KEo_ok, eOr_e, KCh3_ok, KCh3_er, KCh2_ok, KChO_so, KCh1_ok, KCh1_er, fCh_e, sNx_e, sBk_e, sCt_e, sRetN_e, sRaise_e, KS_nx, KS_rt, KS_bk, KS_ct, KS_er, sSeq_e, KIf_ok, KIf_er, sIf_e, KG_ok, KG_er, sAsg_e, nxt_so, gNm_e, KR_ok, KR_er, sRet_e, KD_ok, KD_er, sDrop_e, KP_ok, sPar_e, KF_ok, KF_er, sFor_e, KOw_ok, KOw_er, sOwn_e, KnL_ok, KnL_er, nLst_e, lsO_so, lstAt_e, KoIo_so, KoI_ok, oIx_e, KoL_so, oLen_e, KoAo_so, KoA_ok, KoA_er, oApp_e, KoEo_so, KoE_ok, oExt_e, KsIo2_so, KsIo_so, KsI2_ok, KsI_ok, KsI_er, sSetI_e, KC2_ok, KC2_er, KC_ok, KC_er, fCall_e, KI2_ok, KIo_so, KI_ok, fCallIo_e, KnC2_ok, KnC_ok, KnC_er, nCall_e, KsQ_t, KsQ_l, KsQ_f, iSeq_e, KsE_t, KsE_l, iEn_e, KR1_ok, iRn1_e, KL_ok, KL_er, lstE_e, Kc1_ok, Kc1_er, compN_e, Kc2_ok, Kc2_er, compN2_e, fitL_so, KoP_ok, oPt_e, oNo_e, Ksl3_ok, Ksl3_er, Ksl2_ok, Ksl2_er, Ksl1_ok, Ksl1_er, fSl_e, KTy_ok, KTy_er, sTry_e, KB_rt, KB_nx, KB_er, runB_e, outs_nil, outs_0, gsNil_e, gsCons_e, gTp_t, bodyF, gAdd, gLen, e0, gt_s, e1, h1, List.getElem?_cons_succ, List.getElem?_cons_zero, List.set_cons_succ, List.set_cons_zero, decide_true, if_true]
  · rw [if_neg h1]
    have hl : L.length ≤ 20000 := by omega
    have e2 := shapes_loop (X := V) (Y := N) (Z := some (.int P)) (U := some (.lst L)) (V := some (.int (c + L.length : Nat))) (W := Z) L hL
    have e3 := gall_ok L
    have ln : lnOk (L.map fun d => D.bl (good d)).length = true := lnOk_of (by rw [List.length_map]; omega)
    by_cases h2 : L.all good = false
    · rw [if_pos h2]
      rw [h2] at e3
      simp only [f0_e, put_so, K1_ok, K1_er, f1_e, K2b_ok, K2b_er, K2_ok, K2_er, f2_e, KN_ok, KN_er, fN_e, aNil_e, KAb_ok, KAb_er, KA_ok, KA_er, aCons_e, fvO_so, fv_e, KT_ok, KT_er, tV_e, KNt_ok, KNt_er, tNt_e, KAn_ok, KAn_er, tAn_e, KOr_ok, KOr_er, tOr'_e, KIe_ok, KIe_er, fIf_e, tYs_e, KEa_ok, eAn_e, KEo_ok, eOr_e, KCh3_ok, KCh3_er, KCh2_ok, KChO_so, KCh1_ok, KCh1_er, fCh_e, sNx_e, sBk_e, sCt_e, sRetN_e, sRaise_e, KS_nx, KS_rt, KS_bk, KS_ct, KS_er, sSeq_e, KIf_ok, KIf_er, sIf_e, KG_ok, KG_er, sAsg_e, nxt_so, gNm_e, KR_ok, KR_er, sRet_e, KD_ok, KD_er, sDrop_e, KP_ok, sPar_e, KF_ok, KF_er, sFor_e, KOw_ok, KOw_er, sOwn_e, KnL_ok, KnL_er, nLst_e, lsO_so, lstAt_e, KoIo_so, KoI_ok, oIx_e, KoL_so, oLen_e, KoAo_so, KoA_ok, KoA_er, oApp_e, KoEo_so, KoE_ok, oExt_e, KsIo2_so, KsIo_so, KsI2_ok, KsI_ok, KsI_er, sSetI_e, KC2_ok, KC2_er, KC_ok, KC_er, fCall_e, KI2_ok, KIo_so, KI_ok, fCallIo_e, KnC2_ok, KnC_ok, KnC_er, nCall_e, KsQ_t, KsQ_l, KsQ_f, iSeq_e, KsE_t, KsE_l, iEn_e, KR1_ok, iRn1_e, KL_ok, KL_er, lstE_e, Kc1_ok, Kc1_er, compN_e, Kc2_ok, Kc2_er, compN2_e, fitL_so, KoP_ok, oPt_e, oNo_e, Ksl3_ok, Ksl3_er, Ksl2_ok, Ksl2_er, Ksl1_ok, Ksl1_er, fSl_e, KTy_ok, KTy_er, sTry_e, KB_rt, KB_nx, KB_er, runB_e, outs_nil, outs_0, gsNil_e, gsCons_e, gTp_t, bodyF, gAdd, gLen, e0, gt_s, e1, h1, e2, e3, ln, wipeL, resL, List.getElem?_cons_succ, List.getElem?_cons_zero, List.set_cons_succ, List.set_cons_zero, decide_false, if_true, Bool.not_false, Option.join_some, Bool.false_eq_true, if_false]
    · rw [if_neg h2]
      have h2' : L.all good = true := by simpa using h2
      rw [h2'] at e3
      have g : ∀ d ∈ L, good d = true := List.all_eq_true.mp h2'
      have e4 := level_below_ok hL g hl
      have e5 : ∀ n : Nat, gEq (.int (n : Int)) (.int 0) = some (.bl (decide (n = 0))) := fun n => by
        rw [eq_ii]
        congr 2
        rw [Bool.eq_iff_iff]
        simp
      generalize L.flatMap within = B at *
      by_cases h3 : B.length = 0
      · rw [if_pos h3]
        simp only [f0_e, put_so, K1_ok, K1_er, f1_e, K2b_ok, K2b_er, K2_ok, K2_er, f2_e, KN_ok, KN_er, fN_e, aNil_e, KAb_ok, KAb_er, KA_ok, KA_er, aCons_e, fvO_so, fv_e, KT_ok, KT_er, tV_e, KNt_ok, KNt_er, tNt_e, KAn_ok, KAn_er, tAn_e, KOr_ok, KOr_er, tOr'_e, KIe_ok, KIe_er, fIf_e, tYs_e, KEa_ok, eAn_e, KEo_ok, eOr_e, KCh3_ok, KCh3_er, KCh2_ok, KChO_so, KCh1_ok, KCh1_er, fCh_e, sNx_e, sBk_e, sCt_e, sRetN_e, sRaise_e, KS_nx, KS_rt, KS_bk, KS_ct, KS_er, sSeq_e, KIf_ok, KIf_er, sIf_e, KG_ok, KG_er, sAsg_e, nxt_so, gNm_e, KR_ok, KR_er, sRet_e, KD_ok, KD_er, sDrop_e, KP_ok, sPar_e, KF_ok, KF_er, sFor_e, KOw_ok, KOw_er, sOwn_e, KnL_ok, KnL_er, nLst_e, lsO_so, lstAt_e, KoIo_so, KoI_ok, oIx_e, KoL_so, oLen_e, KoAo_so, KoA_ok, KoA_er, oApp_e, KoEo_so, KoE_ok, oExt_e, KsIo2_so, KsIo_so, KsI2_ok, KsI_ok, KsI_er, sSetI_e, KC2_ok, KC2_er, KC_ok, KC_er, fCall_e, KI2_ok, KIo_so, KI_ok, fCallIo_e, KnC2_ok, KnC_ok, KnC_er, nCall_e, KsQ_t, KsQ_l, KsQ_f, iSeq_e, KsE_t, KsE_l, iEn_e, KR1_ok, iRn1_e, KL_ok, KL_er, lstE_e, Kc1_ok, Kc1_er, compN_e, Kc2_ok, Kc2_er, compN2_e, fitL_so, KoP_ok, oPt_e, oNo_e, Ksl3_ok, Ksl3_er, Ksl2_ok, Ksl2_er, Ksl1_ok, Ksl1_er, fSl_e, KTy_ok, KTy_er, sTry_e, KB_rt, KB_nx, KB_er, runB_e, outs_nil, outs_0, gsNil_e, gsCons_e, gTp_t, bodyF, gAdd, gLen, e0, gt_s, e1, h1, e2, e3, ln, e4, e5, h3, wipeL, resL, List.getElem?_cons_succ, List.getElem?_cons_zero, List.set_cons_succ, List.set_cons_zero, decide_false, decide_true, if_true, Bool.not_true, Option.join_some, Bool.false_eq_true, if_false]
      · rw [if_neg h3]
        simp only [f0_e, put_so, K1_ok, K1_er, f1_e, K2b_ok, K2b_er, K2_ok, K2_er, f2_e, KN_ok, KN_er, fN_e, aNil_e, KAb_ok, KAb_er, KA_ok, KA_er, aCons_e, fvO_so, fv_e, KT_ok, KT_er, tV_e, KNt_ok, KNt_er, tNt_e, KAn_ok, KAn_er, tAn_e, KOr_ok, KOr_er, tOr'_e, KIe_ok, KIe_er, fIf_e, tYs_e, KEa_ok, eAn_e, KEo_ok, eOr_e, KCh3_ok, KCh3_er, KCh2_ok, KChO_so, KCh1_ok, KCh1_er, fCh_e, sNx_e, sBk_e, sCt_e, sRetN_e, sRaise_e, KS_nx, KS_rt, KS_bk, KS_ct, KS_er, sSeq_e, KIf_ok, KIf_er, sIf_e, KG_ok, KG_er, sAsg_e, nxt_so, gNm_e, KR_ok, KR_er, sRet_e, KD_ok, KD_er, sDrop_e, KP_ok, sPar_e, KF_ok, KF_er, sFor_e, KOw_ok, KOw_er, sOwn_e, KnL_ok, KnL_er, nLst_e, lsO_so, lstAt_e, KoIo_so, KoI_ok, oIx_e, KoL_so, oLen_e, KoAo_so, KoA_ok, KoA_er, oApp_e, KoEo_so, KoE_ok, oExt_e, KsIo2_so, KsIo_so, KsI2_ok, KsI_ok, KsI_er, sSetI_e, KC2_ok, KC2_er, KC_ok, KC_er, fCall_e, KI2_ok, KIo_so, KI_ok, fCallIo_e, KnC2_ok, KnC_ok, KnC_er, nCall_e, KsQ_t, KsQ_l, KsQ_f, iSeq_e, KsE_t, KsE_l, iEn_e, KR1_ok, iRn1_e, KL_ok, KL_er, lstE_e, Kc1_ok, Kc1_er, compN_e, Kc2_ok, Kc2_er, compN2_e, fitL_so, KoP_ok, oPt_e, oNo_e, Ksl3_ok, Ksl3_er, Ksl2_ok, Ksl2_er, Ksl1_ok, Ksl1_er, fSl_e, KTy_ok, KTy_er, sTry_e, KB_rt, KB_nx, KB_er, runB_e, outs_nil, outs_0, gsNil_e, gsCons_e, gTp_t, bodyF, gAdd, gLen, e0, gt_s, e1, h1, e2, e3, ln, e4, e5, h3, wipeL, resL, List.getElem?_cons_succ, List.getElem?_cons_zero, List.set_cons_succ, List.set_cons_zero, decide_false, if_true, Bool.not_true, Option.join_some, Bool.false_eq_true, if_false]
end Q68
set_option maxHeartbeats 4000000
namespace Q68
open PySem PySem.Spec Pl
/-- what a walk that answers gives -/
inductive Ans : Bool → Out (Flow' × Lc) → Prop
  | yes {ρ : Lc} : Ans true (.ok (.rt (.bl true), ρ))
  | no {ρ : Lc} : Ans false (.ok (.rt (.bl false), ρ))
  | thru {ρ : Lc} : Ans false (.ok (.nx, ρ))
theorem Ans.end_ {b : Bool} {o : Out (Flow' × Lc)} (h : Ans b o) : ∃ ρ, KS (sRet (f0 (.bl false))) o = .ok (.rt (.bl b), ρ) := by
  cases h with
  | yes => exact ⟨_, rfl⟩
  | no => exact ⟨_, rfl⟩
  | thru => exact ⟨_, rfl⟩
theorem fits_loop {V N : Option D} {P : Nat} (hP : P ≤ 20000) : ∀ (ds : List D) (L : List D) (c : Nat) (Z : Option D), Lv L → Ans (fits P ds.length L c) (forD (gNm 5) bodyF ds [V, N, some (.int P), some (.lst L), some (.int c), Z, none])
  | [], _, _, _, _ => .thru
  | d :: ds, L, c, Z, hL => by
    have e := fits_turn (V := V) (N := N) (Z := some d) (c := c) hL hP
    show Ans (fits P (ds.length + 1) L c) ((bodyF [V, N, some (.int P), some (.lst L), some (.int c), some d, none]).bind fun p => match p.1 with
      | .nx => forD (gNm 5) bodyF ds p.2
      | .ct => forD (gNm 5) bodyF ds p.2
      | .bk => .ok (.nx, p.2)
      | .rt d => .ok (.rt d, p.2))
    rw [e]
    unfold fits
    split
    · exact .no
    · split
      · exact .no
      · rename_i h1 h2
        have g : ∀ d ∈ L, good d = true := List.all_eq_true.mp (by simpa using h2)
        have hB := below_lv hL g
        split
        · exact .yes
        · exact fits_loop hP ds _ _ _ hB
theorem ln1 : lnOk 1 = true := lnOk_of (by omega)
theorem ln0 : lnOk 0 = true := lnOk_of (by omega)
theorem glst1 (v : D) : gLst [v] = some (.lst [v]) := by
  unfold gLst
  rw [List.length_singleton, ln1]
  exact if_pos rfl
theorem glst0 : gLst [] = some (.lst []) := by
  unfold gLst
  rw [List.length_nil, ln0]
  exact if_pos rfl
theorem fits_fin {v : D} {n P : Int} {b : Bool} {R : List D} {ρ : Lc} (e3 : gLst [v] = some (.lst [v])) (q : iRn1 (aCons (fv 1) aNil) [some v, some (.int n), some (.int P), some (.lst [v]), some (.int 0), none, none] = .ok (R, [some v, some (.int n), some (.int P), some (.lst [v]), some (.int 0), none, none]))
    (e : KS (sRet (f0 (.bl false))) (forD (gNm 5) bodyF R [some v, some (.int n), some (.int P), some (.lst [v]), some (.int 0), none, none]) = .ok (.rt (.bl b), ρ)) : F_fits_term [v, .int n, .int P] = .ok (.bl b, []) := by
  have e0 : F_fits_term [v, .int n, .int P] = KB [] (d_fits_term [some v, some (.int n), some (.int P), none, none, none, none]) := by
    unfold F_fits_term
    rw [runB_e] <;> rfl
  have e4 : d_fits_term = sSeq (sPar 3 4 (aCons (fN gLst (aCons (fv 0) aNil)) (aCons (f0 (.int 0)) aNil))) (sSeq (sFor (iRn1 (aCons (fv 1) aNil)) (gNm 5) bodyF) (sRet (f0 (.bl false)))) := rfl
  have e5 : sPar 3 4 (aCons (fN gLst (aCons (fv 0) aNil)) (aCons (f0 (.int 0)) aNil)) [some v, some (.int n), some (.int P), none, none, none, none] = .ok (.nx, [some v, some (.int n), some (.int P), some (.lst [v]), some (.int 0), none, none]) := by
    simp only [f0_e, put_so, K1_ok, K1_er, f1_e, K2b_ok, K2b_er, K2_ok, K2_er, f2_e, KN_ok, KN_er, fN_e, aNil_e, KAb_ok, KAb_er, KA_ok, KA_er, aCons_e, fvO_so, fv_e, KT_ok, KT_er, tV_e, KNt_ok, KNt_er, tNt_e, KAn_ok, KAn_er, tAn_e, KOr_ok, KOr_er, tOr'_e, KIe_ok, KIe_er, fIf_e, tYs_e, KEa_ok, eAn_e, KEo_ok, eOr_e, KCh3_ok, KCh3_er, KCh2_ok, KChO_so, KCh1_ok, KCh1_er, fCh_e, sNx_e, sBk_e, sCt_e, sRetN_e, sRaise_e, KS_nx, KS_rt, KS_bk, KS_ct, KS_er, sSeq_e, KIf_ok, KIf_er, sIf_e, KG_ok, KG_er, sAsg_e, nxt_so, gNm_e, KR_ok, KR_er, sRet_e, KD_ok, KD_er, sDrop_e, KP_ok, sPar_e, KF_ok, KF_er, sFor_e, KOw_ok, KOw_er, sOwn_e, KnL_ok, KnL_er, nLst_e, lsO_so, lstAt_e, KoIo_so, KoI_ok, oIx_e, KoL_so, oLen_e, KoAo_so, KoA_ok, KoA_er, oApp_e, KoEo_so, KoE_ok, oExt_e, KsIo2_so, KsIo_so, KsI2_ok, KsI_ok, KsI_er, sSetI_e, KC2_ok, KC2_er, KC_ok, KC_er, fCall_e, KI2_ok, KIo_so, KI_ok, fCallIo_e, KnC2_ok, KnC_ok, KnC_er, nCall_e, KsQ_t, KsQ_l, KsQ_f, iSeq_e, KsE_t, KsE_l, iEn_e, KR1_ok, iRn1_e, KL_ok, KL_er, lstE_e, Kc1_ok, Kc1_er, compN_e, Kc2_ok, Kc2_er, compN2_e, fitL_so, KoP_ok, oPt_e, oNo_e, Ksl3_ok, Ksl3_er, Ksl2_ok, Ksl2_er, Ksl1_ok, Ksl1_er, fSl_e, KTy_ok, KTy_er, sTry_e, KB_rt, KB_nx, KB_er, runB_e, outs_nil, outs_0, gsNil_e, gsCons_e, gTp_t, e3, List.getElem?_cons_succ, List.getElem?_cons_zero, List.set_cons_succ, List.set_cons_zero]
  rw [e0, e4, sSeq_e, e5, KS_nx, sSeq_e, sFor_e, q, KF_ok, e] <;> rfl
theorem fits_ok {v : D} {n P : Nat} (h : nice v = true) (hn : n ≤ 1000) (hP : P ≤ 20000) : F_fits_term [v, .int n, .int P] = .ok (.bl (fits P n [v] 0), []) := by
  obtain ⟨R, hR⟩ : ∃ R, rngD 0 n = R := ⟨_, rfl⟩
  have l : R.length = n := by
    rw [← hR]
    unfold rngD
    rw [List.length_map, List.length_range]
    omega
  have r : rngOk (n : Int) = true := by
    unfold rngOk
    rw [Bool.and_eq_true]
    exact ⟨decide_eq_true (by omega), decide_eq_true (by omega)⟩
  have a := fits_loop (V := some v) (N := some (.int n)) hP R [v] 0 none (fun x m => (List.mem_singleton.mp m) ▸ h)
  rw [l] at a
  obtain ⟨ρ, e⟩ := a.end_
  have q : iRn1 (aCons (fv 1) aNil) [some v, some (.int n), some (.int P), some (.lst [v]), some (.int 0), none, none] = .ok (R, [some v, some (.int n), some (.int P), some (.lst [v]), some (.int 0), none, none]) := by
    rw [iRn1_e]
    show KR1 (.ok ([.int n], _)) = _
    rw [KR1_ok, r, hR]
    exact if_pos rfl
  exact fits_fin (glst1 v) q e
/-- need_term lets a term through, .. -/
theorem need_ok {v : D} (h : nice v = true) (f : fits 20000 60 [v] 0 = true) : F_need_term [v] = .ok (.non, []) := by
  have e := fits_ok (n := 60) (P := 20000) h (by omega) (by omega)
  rw [f] at e
  have e' : F_fits_term [v, .int 60, .int 20000] = .ok (.bl true, []) := e
  simp [f0_e, put_so, K1_ok, K1_er, f1_e, K2b_ok, K2b_er, K2_ok, K2_er, f2_e, KN_ok, KN_er, fN_e, aNil_e, KAb_ok, KAb_er, KA_ok, KA_er, aCons_e, fvO_so, fv_e, KT_ok, KT_er, tV_e, KNt_ok, KNt_er, tNt_e, KAn_ok, KAn_er, tAn_e, KOr_ok, KOr_er, tOr'_e, KIe_ok, KIe_er, fIf_e, tYs_e, KEa_ok, eAn_e, KEo_ok, eOr_e, KCh3_ok, KCh3_er, KCh2_ok, KChO_so, KCh1_ok, KCh1_er, fCh_e, sNx_e, sBk_e, sCt_e, sRetN_e, sRaise_e, KS_nx, KS_rt, KS_bk, KS_ct, KS_er, sSeq_e, KIf_ok, KIf_er, sIf_e, KG_ok, KG_er, sAsg_e, nxt_so, gNm_e, KR_ok, KR_er, sRet_e, KD_ok, KD_er, sDrop_e, KP_ok, sPar_e, KF_ok, KF_er, sFor_e, KOw_ok, KOw_er, sOwn_e, KnL_ok, KnL_er, nLst_e, lsO_so, lstAt_e, KoIo_so, KoI_ok, oIx_e, KoL_so, oLen_e, KoAo_so, KoA_ok, KoA_er, oApp_e, KoEo_so, KoE_ok, oExt_e, KsIo2_so, KsIo_so, KsI2_ok, KsI_ok, KsI_er, sSetI_e, KC2_ok, KC2_er, KC_ok, KC_er, fCall_e, KI2_ok, KIo_so, KI_ok, fCallIo_e, KnC2_ok, KnC_ok, KnC_er, nCall_e, KsQ_t, KsQ_l, KsQ_f, iSeq_e, KsE_t, KsE_l, iEn_e, KR1_ok, iRn1_e, KL_ok, KL_er, lstE_e, Kc1_ok, Kc1_er, compN_e, Kc2_ok, Kc2_er, compN2_e, fitL_so, KoP_ok, oPt_e, oNo_e, Ksl3_ok, Ksl3_er, Ksl2_ok, Ksl2_er, Ksl1_ok, Ksl1_er, fSl_e, KTy_ok, KTy_er, sTry_e, KB_rt, KB_nx, KB_er, runB_e, outs_nil, outs_0, gsNil_e, gsCons_e, gTp_t, F_need_term, d_need_term, e']
/-- .. and nothing else -/
theorem need_no {v : D} (h : nice v = true) (f : fits 20000 60 [v] 0 = false) : F_need_term [v] = .err ⟨"InvalidTerm", []⟩ [] := by
  have e := fits_ok (n := 60) (P := 20000) h (by omega) (by omega)
  rw [f] at e
  have e' : F_fits_term [v, .int 60, .int 20000] = .ok (.bl false, []) := e
  simp [f0_e, put_so, K1_ok, K1_er, f1_e, K2b_ok, K2b_er, K2_ok, K2_er, f2_e, KN_ok, KN_er, fN_e, aNil_e, KAb_ok, KAb_er, KA_ok, KA_er, aCons_e, fvO_so, fv_e, KT_ok, KT_er, tV_e, KNt_ok, KNt_er, tNt_e, KAn_ok, KAn_er, tAn_e, KOr_ok, KOr_er, tOr'_e, KIe_ok, KIe_er, fIf_e, tYs_e, KEa_ok, eAn_e, KEo_ok, eOr_e, KCh3_ok, KCh3_er, KCh2_ok, KChO_so, KCh1_ok, KCh1_er, fCh_e, sNx_e, sBk_e, sCt_e, sRetN_e, sRaise_e, KS_nx, KS_rt, KS_bk, KS_ct, KS_er, sSeq_e, KIf_ok, KIf_er, sIf_e, KG_ok, KG_er, sAsg_e, nxt_so, gNm_e, KR_ok, KR_er, sRet_e, KD_ok, KD_er, sDrop_e, KP_ok, sPar_e, KF_ok, KF_er, sFor_e, KOw_ok, KOw_er, sOwn_e, KnL_ok, KnL_er, nLst_e, lsO_so, lstAt_e, KoIo_so, KoI_ok, oIx_e, KoL_so, oLen_e, KoAo_so, KoA_ok, KoA_er, oApp_e, KoEo_so, KoE_ok, oExt_e, KsIo2_so, KsIo_so, KsI2_ok, KsI_ok, KsI_er, sSetI_e, KC2_ok, KC2_er, KC_ok, KC_er, fCall_e, KI2_ok, KIo_so, KI_ok, fCallIo_e, KnC2_ok, KnC_ok, KnC_er, nCall_e, KsQ_t, KsQ_l, KsQ_f, iSeq_e, KsE_t, KsE_l, iEn_e, KR1_ok, iRn1_e, KL_ok, KL_er, lstE_e, Kc1_ok, Kc1_er, compN_e, Kc2_ok, Kc2_er, compN2_e, fitL_so, KoP_ok, oPt_e, oNo_e, Ksl3_ok, Ksl3_er, Ksl2_ok, Ksl2_er, Ksl1_ok, Ksl1_er, fSl_e, KTy_ok, KTy_er, sTry_e, KB_rt, KB_nx, KB_er, runB_e, outs_nil, outs_0, gsNil_e, gsCons_e, gTp_t, F_need_term, d_need_term, e']
end Q68
set_option maxHeartbeats 4000000
namespace Q68
open PySem PySem.Spec Pl
/-- a term of height at most n -/
def WF : Nat → D → Prop
  | 0, _ => False
  | n + 1, d => nice d = true ∧ good d = true ∧ ∀ p ∈ within d, WF n p
def cnt : Nat → D → Nat
  | 0, _ => 0
  | n + 1, d => 1 + ((within d).map (cnt n)).sum
theorem WF.nice_ : ∀ {n : Nat} {d : D}, WF n d → nice d = true
  | 0, _, h => h.elim
  | _ + 1, _, h => h.1
theorem WF.good_ : ∀ {n : Nat} {d : D}, WF n d → good d = true
  | 0, _, h => h.elim
  | _ + 1, _, h => h.2.1
theorem WF.kid : ∀ {n : Nat} {d p : D}, WF n d → p ∈ within d → WF (n - 1) p
  | 0, _, _, h, _ => h.elim
  | _ + 1, _, _, h, m => h.2.2 _ m
theorem WF.mono : ∀ {n m : Nat} {d : D}, WF n d → n ≤ m → WF m d
  | 0, _, _, h, _ => h.elim
  | n + 1, 0, _, _, l => by omega
  | n + 1, m + 1, _, h, l => ⟨h.1, h.2.1, fun p q => (h.2.2 p q).mono (by omega)⟩
theorem fits_all {P n c : Nat} {L : List D} (f : fits P (n + 1) L c = true) : c + L.length ≤ P ∧ (∀ d ∈ L, good d = true) ∧ (L.flatMap within = [] ∨ fits P n (L.flatMap within) (c + L.length) = true) := by
  unfold fits at f
  split at f
  · cases f
  · split at f
    · cases f
    · rename_i h1 h2
      refine ⟨by omega, List.all_eq_true.mp (by simpa using h2), ?_⟩
      split at f
      · rename_i h3
        exact .inl (List.length_eq_zero_iff.mp h3)
      · exact .inr f
theorem wf_of_fits {P : Nat} : ∀ (n : Nat) (L : List D) (c : Nat), Lv L → fits P n L c = true → ∀ d ∈ L, WF n d
  | 0, _, _, _, f => by cases f
  | n + 1, L, c, hL, f => by
    obtain ⟨h1, h2, h3⟩ := fits_all f
    intro d m
    refine ⟨hL d m, h2 d m, fun p q => ?_⟩
    have mp : p ∈ L.flatMap within := List.mem_flatMap.mpr ⟨d, m, q⟩
    rcases h3 with e | f2
    · rw [e] at mp; cases mp
    · exact wf_of_fits n _ _ (below_lv hL h2) f2 p mp
theorem cnt_flat (n : Nat) : ∀ L : List D, (L.map (cnt (n + 1))).sum = L.length + ((L.flatMap within).map (cnt n)).sum
  | [] => rfl
  | d :: L => by
    rw [List.map_cons, List.sum_cons, cnt_flat n L, List.flatMap_cons, List.map_append, List.sum_append, List.length_cons]
    show 1 + ((within d).map (cnt n)).sum + _ = _
    omega
theorem cnt_of_fits {P : Nat} : ∀ (n : Nat) (L : List D) (c : Nat), fits P n L c = true → c + (L.map (cnt n)).sum ≤ P
  | 0, _, _, f => by cases f
  | n + 1, L, c, f => by
    obtain ⟨h1, h2, h3⟩ := fits_all f
    rw [cnt_flat]
    rcases h3 with e | f2
    · rw [e]; exact h1
    · have := cnt_of_fits n _ _ f2
      omega
/-- .. and back -/
theorem fits_of_wf {P : Nat} : ∀ (n : Nat) (L : List D) (c : Nat), L ≠ [] → (∀ d ∈ L, WF n d) → fits P n L c = decide (c + (L.map (cnt n)).sum ≤ P)
  | 0, L, c, h0, h => by
    obtain ⟨d, m⟩ := List.exists_mem_of_ne_nil L h0
    exact (h d m).elim
  | n + 1, L, c, h0, h => by
    have g : ∀ d ∈ L, good d = true := fun d m => (h d m).good_
    have ga : L.all good = true := List.all_eq_true.mpr g
    rw [cnt_flat]
    unfold fits
    split
    · rename_i h1
      symm
      exact decide_eq_false (by omega)
    · rw [if_neg (by rw [ga]; exact fun z => by cases z)]
      split
      · rename_i h1 h3
        have e := List.length_eq_zero_iff.mp h3
        rw [e]
        symm
        exact decide_eq_true (by show c + (L.length + 0) ≤ P; omega)
      · rename_i h1 h3
        have ne : L.flatMap within ≠ [] := fun e => h3 (by rw [e] <;> rfl)
        rw [fits_of_wf n _ _ ne fun p q => ?_]
        · congr 1
          rw [Nat.add_assoc]
        · obtain ⟨d, m1, m2⟩ := List.mem_flatMap.mp q
          exact (h d m1).2.2 p m2
theorem good_tup {d : D} (g : good d = true) : ∃ xs, d = .tup xs := by
  cases d <;> first | exact ⟨_, rfl⟩ | cases g
/-- the law's way to the parts -/
theorem lparts_ok {n : Nat} {d : D} (h : WF n d) : F__law_parts [d] = .ok (.tup (within d), []) := by
  cases n with
  | zero => exact h.elim
  | succ n =>
    obtain ⟨hn, g, k⟩ := h
    rcases good_cases hn g with rfl | ⟨i, rfl, _, _⟩ | ⟨s, a, rfl, hs, ha⟩ | ⟨a, i, rfl, _, _, ha⟩ | ⟨s, a, b, rfl, hs, ha, hb⟩
    · kernel_rfl
    · kernel_rfl
    · have wa : WF n a := k a (by rcases ones_cases hs with rfl | rfl | rfl <;> exact List.mem_singleton.mpr rfl)
      obtain ⟨xs, rfl⟩ := good_tup wa.good_
      rcases ones_cases hs with rfl | rfl | rfl <;> kernel_rfl
    · have wa : WF n a := k a (List.mem_singleton.mpr rfl)
      obtain ⟨xs, rfl⟩ := good_tup wa.good_
      kernel_rfl
    · have wa : WF n a := k a (by rcases pairs_cases hs with rfl | rfl | rfl | rfl <;> exact List.mem_cons_self ..)
      have wb : WF n b := k b (by rcases pairs_cases hs with rfl | rfl | rfl | rfl <;> exact List.mem_cons_of_mem _ (List.mem_singleton.mpr rfl))
      obtain ⟨xs, rfl⟩ := good_tup wa.good_
      obtain ⟨ys, rfl⟩ := good_tup wb.good_
      rcases pairs_cases hs with rfl | rfl | rfl | rfl <;> kernel_rfl
/-! ### heights -/
def hg : Nat → List D → Nat
  | 0, _ => 0
  | n + 1, L => 1 + if (L.flatMap within).length = 0 then 0 else hg n (L.flatMap within)
abbrev cH : TD := tV (f2 gGt (fN gLen (aCons (fv 1) aNil)) (f0 (.int 0)))
abbrev bH : SD := sPar 1 2 (aCons (fCall F_level_below (aCons (fv 1) aNil)) (aCons (f2 gAdd (fv 2) (f0 (.int 1))) aNil))
theorem wh_nx {c : TD} {b : SD} {m : Nat} {ρ ρ1 ρ2 : Lc} (h : c ρ = .ok (true, ρ1)) (h2 : b ρ1 = .ok (.nx, ρ2)) : whD c b (m + 1) ρ = whD c b m ρ2 := by
  have e : whD c b (m + 1) ρ = ((c ρ).bind fun p => if p.1 = true then (b p.2).bind fun q => match q.1 with
      | .nx => whD c b m q.2
      | .ct => whD c b m q.2
      | .bk => .ok (.nx, q.2)
      | .rt d => .ok (.rt d, q.2)
    else .ok (.nx, p.2)) := rfl
  rw [e, h]
  simp only [Out.bind, if_true, h2]
theorem wh_end {V : Option D} {h : Int} (m : Nat) : whD cH bH (m + 1) [V, some (.lst []), some (.int h)] = .ok (.nx, [V, some (.lst []), some (.int h)]) := by kernel_rfl
theorem height_loop {V : Option D} {P : Nat} (hP : P ≤ 20000) : ∀ (n m : Nat) (L : List D) (c : Nat) (h : Int), L ≠ [] → Lv L → fits P n L c = true → n + 1 ≤ m → whD cH bH m [V, some (.lst L), some (.int h)] = .ok (.nx, [V, some (.lst []), some (.int (h + hg n L))])
  | 0, _, _, _, _, _, _, f, _ => by cases f
  | n + 1, 0, _, _, _, _, _, _, l => by omega
  | n + 1, m + 1, L, c, h, h0, hL, f, l => by
    obtain ⟨h1, h2, h3⟩ := fits_all f
    have p0 : 0 < L.length := List.length_pos_iff.mpr h0
    have e1 : cH [V, some (.lst L), some (.int h)] = .ok (true, [V, some (.lst L), some (.int h)]) := by
      have e : decide ((0 : Int) < (L.length : Int)) = true := decide_eq_true (by omega)
      simp only [f0_e, put_so, K1_ok, K1_er, f1_e, K2b_ok, K2b_er, K2_ok, K2_er, f2_e, KN_ok, KN_er, fN_e, aNil_e, KAb_ok, KAb_er, KA_ok, KA_er, aCons_e, fvO_so, fv_e, KT_ok, KT_er, tV_e, KNt_ok, KNt_er, tNt_e, KAn_ok, KAn_er, tAn_e, KOr_ok, KOr_er, tOr'_e, KIe_ok, KIe_er, fIf_e, tYs_e, KEa_ok, eAn_e, KEo_ok, eOr_e, KCh3_ok, KCh3_er, KCh2_ok, KChO_so, KCh1_ok, KCh1_er, fCh_e, sNx_e, sBk_e, sCt_e, sRetN_e, sRaise_e, KS_nx, KS_rt, KS_bk, KS_ct, KS_er, sSeq_e, KIf_ok, KIf_er, sIf_e, KG_ok, KG_er, sAsg_e, nxt_so, gNm_e, KR_ok, KR_er, sRet_e, KD_ok, KD_er, sDrop_e, KP_ok, sPar_e, KF_ok, KF_er, sFor_e, KOw_ok, KOw_er, sOwn_e, KnL_ok, KnL_er, nLst_e, lsO_so, lstAt_e, KoIo_so, KoI_ok, oIx_e, KoL_so, oLen_e, KoAo_so, KoA_ok, KoA_er, oApp_e, KoEo_so, KoE_ok, oExt_e, KsIo2_so, KsIo_so, KsI2_ok, KsI_ok, KsI_er, sSetI_e, KC2_ok, KC2_er, KC_ok, KC_er, fCall_e, KI2_ok, KIo_so, KI_ok, fCallIo_e, KnC2_ok, KnC_ok, KnC_er, nCall_e, KsQ_t, KsQ_l, KsQ_f, iSeq_e, KsE_t, KsE_l, iEn_e, KR1_ok, iRn1_e, KL_ok, KL_er, lstE_e, Kc1_ok, Kc1_er, compN_e, Kc2_ok, Kc2_er, compN2_e, fitL_so, KoP_ok, oPt_e, oNo_e, Ksl3_ok, Ksl3_er, Ksl2_ok, Ksl2_er, Ksl1_ok, Ksl1_er, fSl_e, KTy_ok, KTy_er, sTry_e, KB_rt, KB_nx, KB_er, runB_e, outs_nil, outs_0, gsNil_e, gsCons_e, gTp_t, cH, gLen, gt_s, e, List.getElem?_cons_succ, List.getElem?_cons_zero]
    have e2 := level_below_ok hL h2 (by omega)
    have e3 : bH [V, some (.lst L), some (.int h)] = .ok (.nx, [V, some (.lst (L.flatMap within)), some (.int (h + 1))]) := by
      generalize L.flatMap within = B at *
      simp only [f0_e, put_so, K1_ok, K1_er, f1_e, K2b_ok, K2b_er, K2_ok, K2_er, f2_e, KN_ok, KN_er, fN_e, aNil_e, KAb_ok, KAb_er, KA_ok, KA_er, aCons_e, fvO_so, fv_e, KT_ok, KT_er, tV_e, KNt_ok, KNt_er, tNt_e, KAn_ok, KAn_er, tAn_e, KOr_ok, KOr_er, tOr'_e, KIe_ok, KIe_er, fIf_e, tYs_e, KEa_ok, eAn_e, KEo_ok, eOr_e, KCh3_ok, KCh3_er, KCh2_ok, KChO_so, KCh1_ok, KCh1_er, fCh_e, sNx_e, sBk_e, sCt_e, sRetN_e, sRaise_e, KS_nx, KS_rt, KS_bk, KS_ct, KS_er, sSeq_e, KIf_ok, KIf_er, sIf_e, KG_ok, KG_er, sAsg_e, nxt_so, gNm_e, KR_ok, KR_er, sRet_e, KD_ok, KD_er, sDrop_e, KP_ok, sPar_e, KF_ok, KF_er, sFor_e, KOw_ok, KOw_er, sOwn_e, KnL_ok, KnL_er, nLst_e, lsO_so, lstAt_e, KoIo_so, KoI_ok, oIx_e, KoL_so, oLen_e, KoAo_so, KoA_ok, KoA_er, oApp_e, KoEo_so, KoE_ok, oExt_e, KsIo2_so, KsIo_so, KsI2_ok, KsI_ok, KsI_er, sSetI_e, KC2_ok, KC2_er, KC_ok, KC_er, fCall_e, KI2_ok, KIo_so, KI_ok, fCallIo_e, KnC2_ok, KnC_ok, KnC_er, nCall_e, KsQ_t, KsQ_l, KsQ_f, iSeq_e, KsE_t, KsE_l, iEn_e, KR1_ok, iRn1_e, KL_ok, KL_er, lstE_e, Kc1_ok, Kc1_er, compN_e, Kc2_ok, Kc2_er, compN2_e, fitL_so, KoP_ok, oPt_e, oNo_e, Ksl3_ok, Ksl3_er, Ksl2_ok, Ksl2_er, Ksl1_ok, Ksl1_er, fSl_e, KTy_ok, KTy_er, sTry_e, KB_rt, KB_nx, KB_er, runB_e, outs_nil, outs_0, gsNil_e, gsCons_e, gTp_t, bH, e2, add_s, List.getElem?_cons_succ, List.getElem?_cons_zero, List.set_cons_succ, List.set_cons_zero]
    have e4 := wh_nx (m := m) e1 e3
    rw [e4]
    unfold hg
    rcases h3 with e | f2
    · rw [e]
      obtain ⟨m', rfl⟩ : ∃ m', m = m' + 1 := ⟨m - 1, by omega⟩
      rw [wh_end] <;> rfl
    · by_cases e : L.flatMap within = []
      · rw [e]
        obtain ⟨m', rfl⟩ : ∃ m', m = m' + 1 := ⟨m - 1, by omega⟩
        rw [wh_end] <;> rfl
      · have ne : ¬ (L.flatMap within).length = 0 := fun z => e (List.length_eq_zero_iff.mp z)
        rw [if_neg ne, height_loop hP n m _ _ (h + 1) e (below_lv hL h2) f2 (by omega)]
        congr 4
        simp only [D.int.injEq, Option.some.injEq, List.cons.injEq, and_true, true_and]
        omega
/-! #### the other way -/
abbrev extP : SD := (sDrop (oExt 3 (fN gLstOf (aCons (fCall F__law_parts (aCons (fv 4) aNil)) aNil))))
theorem extP_loop {A B C : Option D} {n : Nat} : ∀ (L acc : List D) (W : Option D), (∀ d ∈ L, WF n d) → acc.length + 2 * L.length ≤ 16777216 → ∃ W', forD (gNm 4) extP L [A, B, C, some (.lst acc), W] = .ok (.nx, [A, B, C, some (.lst (acc ++ L.flatMap within)), W'])
  | [], acc, W, _, _ => ⟨W, by rw [List.flatMap_nil, List.append_nil] <;> rfl⟩
  | d :: L, acc, W, h, l => by
    have hd := h d (List.mem_cons_self ..)
    have e := lparts_ok hd
    have e2 := (parts_ok hd.nice_ hd.good_).2.2.2
    rw [List.length_cons] at l
    obtain ⟨W', ih⟩ := extP_loop (A := A) (B := B) (C := C) L (acc ++ within d) (some d) (fun x m => h x (List.mem_cons_of_mem _ m)) (by rw [List.length_append]; omega)
    have ln : lnOk (acc.length + (within d).length) = true := lnOk_of (by omega)
    have e1 : extP [A, B, C, some (.lst acc), some d] = .ok (.nx, [A, B, C, some (.lst (acc ++ within d)), some d]) := by simp [f0_e, put_so, K1_ok, K1_er, f1_e, K2b_ok, K2b_er, K2_ok, K2_er, f2_e, KN_ok, KN_er, fN_e, aNil_e, KAb_ok, KAb_er, KA_ok, KA_er, aCons_e, fvO_so, fv_e, KT_ok, KT_er, tV_e, KNt_ok, KNt_er, tNt_e, KAn_ok, KAn_er, tAn_e, KOr_ok, KOr_er, tOr'_e, KIe_ok, KIe_er, fIf_e, tYs_e, KEa_ok, eAn_e, KEo_ok, eOr_e, KCh3_ok, KCh3_er, KCh2_ok, KChO_so, KCh1_ok, KCh1_er, fCh_e, sNx_e, sBk_e, sCt_e, sRetN_e, sRaise_e, KS_nx, KS_rt, KS_bk, KS_ct, KS_er, sSeq_e, KIf_ok, KIf_er, sIf_e, KG_ok, KG_er, sAsg_e, nxt_so, gNm_e, KR_ok, KR_er, sRet_e, KD_ok, KD_er, sDrop_e, KP_ok, sPar_e, KF_ok, KF_er, sFor_e, KOw_ok, KOw_er, sOwn_e, KnL_ok, KnL_er, nLst_e, lsO_so, lstAt_e, KoIo_so, KoI_ok, oIx_e, KoL_so, oLen_e, KoAo_so, KoA_ok, KoA_er, oApp_e, KoEo_so, KoE_ok, oExt_e, KsIo2_so, KsIo_so, KsI2_ok, KsI_ok, KsI_er, sSetI_e, KC2_ok, KC2_er, KC_ok, KC_er, fCall_e, KI2_ok, KIo_so, KI_ok, fCallIo_e, KnC2_ok, KnC_ok, KnC_er, nCall_e, KsQ_t, KsQ_l, KsQ_f, iSeq_e, KsE_t, KsE_l, iEn_e, KR1_ok, iRn1_e, KL_ok, KL_er, lstE_e, Kc1_ok, Kc1_er, compN_e, Kc2_ok, Kc2_er, compN2_e, fitL_so, KoP_ok, oPt_e, oNo_e, Ksl3_ok, Ksl3_er, Ksl2_ok, Ksl2_er, Ksl1_ok, Ksl1_er, fSl_e, KTy_ok, KTy_er, sTry_e, KB_rt, KB_nx, KB_er, runB_e, outs_nil, outs_0, gsNil_e, gsCons_e, gTp_t, extP, e, ln, gLstOf]
    refine ⟨W', ?_⟩
    show ((extP [A, B, C, some (.lst acc), some d]).bind fun p => match p.1 with
      | .nx => forD (gNm 4) extP L p.2
      | .ct => forD (gNm 4) extP L p.2
      | .bk => .ok (.nx, p.2)
      | .rt d => .ok (.rt d, p.2)) = _
    rw [e1, List.flatMap_cons, ← List.append_assoc]
    exact ih
abbrev bL : SD := (sSeq (sOwn 3 (nLst aNil)) (sSeq (sFor (iSeq (fv 1)) (gNm 4) extP) (sPar 1 2 (aCons (fv 3) (aCons (f2 gAdd (fv 2) (f0 (.int 1))) aNil)))))
theorem wl_end {V X Y : Option D} {h : Int} (m : Nat) : whD cH bL (m + 1) [V, some (.lst []), some (.int h), X, Y] = .ok (.nx, [V, some (.lst []), some (.int h), X, Y]) := by kernel_rfl
theorem lheight_loop {V : Option D} {P : Nat} (hP : P ≤ 20000) : ∀ (n m : Nat) (L : List D) (c : Nat) (h : Int) (X Y : Option D), L ≠ [] → Lv L → fits P n L c = true → n + 1 ≤ m → ∃ X' Y', whD cH bL m [V, some (.lst L), some (.int h), X, Y] = .ok (.nx, [V, some (.lst []), some (.int (h + hg n L)), X', Y'])
  | 0, _, _, _, _, _, _, _, _, f, _ => by cases f
  | n + 1, 0, _, _, _, _, _, _, _, _, l => by omega
  | n + 1, m + 1, L, c, h, X, Y, h0, hL, f, l => by
    obtain ⟨h1, h2, h3⟩ := fits_all f
    have p0 : 0 < L.length := List.length_pos_iff.mpr h0
    have e1 : cH [V, some (.lst L), some (.int h), X, Y] = .ok (true, [V, some (.lst L), some (.int h), X, Y]) := by
      have e : decide ((0 : Int) < (L.length : Int)) = true := decide_eq_true (by omega)
      simp only [f0_e, put_so, K1_ok, K1_er, f1_e, K2b_ok, K2b_er, K2_ok, K2_er, f2_e, KN_ok, KN_er, fN_e, aNil_e, KAb_ok, KAb_er, KA_ok, KA_er, aCons_e, fvO_so, fv_e, KT_ok, KT_er, tV_e, KNt_ok, KNt_er, tNt_e, KAn_ok, KAn_er, tAn_e, KOr_ok, KOr_er, tOr'_e, KIe_ok, KIe_er, fIf_e, tYs_e, KEa_ok, eAn_e, KEo_ok, eOr_e, KCh3_ok, KCh3_er, KCh2_ok, KChO_so, KCh1_ok, KCh1_er, fCh_e, sNx_e, sBk_e, sCt_e, sRetN_e, sRaise_e, KS_nx, KS_rt, KS_bk, KS_ct, KS_er, sSeq_e, KIf_ok, KIf_er, sIf_e, KG_ok, KG_er, sAsg_e, nxt_so, gNm_e, KR_ok, KR_er, sRet_e, KD_ok, KD_er, sDrop_e, KP_ok, sPar_e, KF_ok, KF_er, sFor_e, KOw_ok, KOw_er, sOwn_e, KnL_ok, KnL_er, nLst_e, lsO_so, lstAt_e, KoIo_so, KoI_ok, oIx_e, KoL_so, oLen_e, KoAo_so, KoA_ok, KoA_er, oApp_e, KoEo_so, KoE_ok, oExt_e, KsIo2_so, KsIo_so, KsI2_ok, KsI_ok, KsI_er, sSetI_e, KC2_ok, KC2_er, KC_ok, KC_er, fCall_e, KI2_ok, KIo_so, KI_ok, fCallIo_e, KnC2_ok, KnC_ok, KnC_er, nCall_e, KsQ_t, KsQ_l, KsQ_f, iSeq_e, KsE_t, KsE_l, iEn_e, KR1_ok, iRn1_e, KL_ok, KL_er, lstE_e, Kc1_ok, Kc1_er, compN_e, Kc2_ok, Kc2_er, compN2_e, fitL_so, KoP_ok, oPt_e, oNo_e, Ksl3_ok, Ksl3_er, Ksl2_ok, Ksl2_er, Ksl1_ok, Ksl1_er, fSl_e, KTy_ok, KTy_er, sTry_e, KB_rt, KB_nx, KB_er, runB_e, outs_nil, outs_0, gsNil_e, gsCons_e, gTp_t, cH, gLen, gt_s, e, List.getElem?_cons_succ, List.getElem?_cons_zero]
    obtain ⟨Y', e2⟩ := extP_loop (A := V) (B := some (.lst L)) (C := some (.int h)) L [] Y (wf_of_fits _ _ _ hL f) (by rw [List.length_nil]; omega)
    rw [List.nil_append] at e2
    have e3 : bL [V, some (.lst L), some (.int h), X, Y] = .ok (.nx, [V, some (.lst (L.flatMap within)), some (.int (h + 1)), some (.lst (L.flatMap within)), Y']) := by
      generalize L.flatMap within = B at *
      simp only [f0_e, put_so, K1_ok, K1_er, f1_e, K2b_ok, K2b_er, K2_ok, K2_er, f2_e, KN_ok, KN_er, fN_e, aNil_e, KAb_ok, KAb_er, KA_ok, KA_er, aCons_e, fvO_so, fv_e, KT_ok, KT_er, tV_e, KNt_ok, KNt_er, tNt_e, KAn_ok, KAn_er, tAn_e, KOr_ok, KOr_er, tOr'_e, KIe_ok, KIe_er, fIf_e, tYs_e, KEa_ok, eAn_e, KEo_ok, eOr_e, KCh3_ok, KCh3_er, KCh2_ok, KChO_so, KCh1_ok, KCh1_er, fCh_e, sNx_e, sBk_e, sCt_e, sRetN_e, sRaise_e, KS_nx, KS_rt, KS_bk, KS_ct, KS_er, sSeq_e, KIf_ok, KIf_er, sIf_e, KG_ok, KG_er, sAsg_e, nxt_so, gNm_e, KR_ok, KR_er, sRet_e, KD_ok, KD_er, sDrop_e, KP_ok, sPar_e, KF_ok, KF_er, sFor_e, KOw_ok, KOw_er, sOwn_e, KnL_ok, KnL_er, nLst_e, lsO_so, lstAt_e, KoIo_so, KoI_ok, oIx_e, KoL_so, oLen_e, KoAo_so, KoA_ok, KoA_er, oApp_e, KoEo_so, KoE_ok, oExt_e, KsIo2_so, KsIo_so, KsI2_ok, KsI_ok, KsI_er, sSetI_e, KC2_ok, KC2_er, KC_ok, KC_er, fCall_e, KI2_ok, KIo_so, KI_ok, fCallIo_e, KnC2_ok, KnC_ok, KnC_er, nCall_e, KsQ_t, KsQ_l, KsQ_f, iSeq_e, KsE_t, KsE_l, iEn_e, KR1_ok, iRn1_e, KL_ok, KL_er, lstE_e, Kc1_ok, Kc1_er, compN_e, Kc2_ok, Kc2_er, compN2_e, fitL_so, KoP_ok, oPt_e, oNo_e, Ksl3_ok, Ksl3_er, Ksl2_ok, Ksl2_er, Ksl1_ok, Ksl1_er, fSl_e, KTy_ok, KTy_er, sTry_e, KB_rt, KB_nx, KB_er, runB_e, outs_nil, outs_0, gsNil_e, gsCons_e, gTp_t, bL, e2, add_s, ln0, List.getElem?_cons_succ, List.getElem?_cons_zero, List.set_cons_succ, List.set_cons_zero, if_true, List.length_cons, List.length_nil, Nat.reduceAdd, Nat.reduceLT]
    have e4 := wh_nx (m := m) e1 e3
    rw [e4]
    unfold hg
    rcases h3 with e | f2
    · rw [e]
      obtain ⟨m', rfl⟩ : ∃ m', m = m' + 1 := ⟨m - 1, by omega⟩
      exact ⟨_, _, by rw [wl_end] <;> rfl⟩
    · by_cases e : L.flatMap within = []
      · rw [e]
        obtain ⟨m', rfl⟩ : ∃ m', m = m' + 1 := ⟨m - 1, by omega⟩
        exact ⟨_, _, by rw [wl_end] <;> rfl⟩
      · have ne : ¬ (L.flatMap within).length = 0 := fun z => e (List.length_eq_zero_iff.mp z)
        obtain ⟨X', Y2, ih⟩ := lheight_loop hP n m _ _ (h + 1) (some (.lst (L.flatMap within))) Y' e (below_lv hL h2) f2 (by omega)
        refine ⟨X', Y2, ?_⟩
        rw [if_neg ne, ih]
        congr 4
        simp only [D.int.injEq, Option.some.injEq, List.cons.injEq, and_true, true_and]
        omega
theorem fuel_ge {n : Nat} (h : n ≤ 1000) : n + 1 ≤ fuel := by
  have : 1001 ≤ fuel := Nat.le_of_ble_eq_true (by kernel_rfl)
  omega
theorem lheight_ok {v : D} {P n : Nat} (hP : P ≤ 20000) (hn : n ≤ 1000) (h : nice v = true) (f : fits P n [v] 0 = true) : F__law_height [v] = .ok (.int (hg n [v]), []) := by
  obtain ⟨X', Y', e2⟩ := lheight_loop (V := some v) hP n fuel [v] 0 0 none none (by simp) (fun x m => (List.mem_singleton.mp m) ▸ h) f (fuel_ge hn)
  have e3 := glst1 v
  have e4 : sWhile cH bL [some v, some (.lst [v]), some (.int 0), none, none] = .ok (.nx, [some v, some (.lst []), some (.int (0 + hg n [v])), X', Y']) := e2
  generalize hg n [v] = H at *
  have e5 : d__law_height = sSeq (sPar 1 2 (aCons (fN gLst (aCons (fv 0) aNil)) (aCons (f0 (.int 0)) aNil))) (sSeq (sWhile cH bL) (sRet (fv 2))) := rfl
  have e6 : F__law_height [v] = KB [] (d__law_height [some v, none, none, none, none]) := by
    unfold F__law_height
    rw [runB_e] <;> rfl
  rw [e6, e5]
  generalize cH = C at *
  generalize bL = B at *
  simp only [f0_e, put_so, K1_ok, K1_er, f1_e, K2b_ok, K2b_er, K2_ok, K2_er, f2_e, KN_ok, KN_er, fN_e, aNil_e, KAb_ok, KAb_er, KA_ok, KA_er, aCons_e, fvO_so, fv_e, KT_ok, KT_er, tV_e, KNt_ok, KNt_er, tNt_e, KAn_ok, KAn_er, tAn_e, KOr_ok, KOr_er, tOr'_e, KIe_ok, KIe_er, fIf_e, tYs_e, KEa_ok, eAn_e, KEo_ok, eOr_e, KCh3_ok, KCh3_er, KCh2_ok, KChO_so, KCh1_ok, KCh1_er, fCh_e, sNx_e, sBk_e, sCt_e, sRetN_e, sRaise_e, KS_nx, KS_rt, KS_bk, KS_ct, KS_er, sSeq_e, KIf_ok, KIf_er, sIf_e, KG_ok, KG_er, sAsg_e, nxt_so, gNm_e, KR_ok, KR_er, sRet_e, KD_ok, KD_er, sDrop_e, KP_ok, sPar_e, KF_ok, KF_er, sFor_e, KOw_ok, KOw_er, sOwn_e, KnL_ok, KnL_er, nLst_e, lsO_so, lstAt_e, KoIo_so, KoI_ok, oIx_e, KoL_so, oLen_e, KoAo_so, KoA_ok, KoA_er, oApp_e, KoEo_so, KoE_ok, oExt_e, KsIo2_so, KsIo_so, KsI2_ok, KsI_ok, KsI_er, sSetI_e, KC2_ok, KC2_er, KC_ok, KC_er, fCall_e, KI2_ok, KIo_so, KI_ok, fCallIo_e, KnC2_ok, KnC_ok, KnC_er, nCall_e, KsQ_t, KsQ_l, KsQ_f, iSeq_e, KsE_t, KsE_l, iEn_e, KR1_ok, iRn1_e, KL_ok, KL_er, lstE_e, Kc1_ok, Kc1_er, compN_e, Kc2_ok, Kc2_er, compN2_e, fitL_so, KoP_ok, oPt_e, oNo_e, Ksl3_ok, Ksl3_er, Ksl2_ok, Ksl2_er, Ksl1_ok, Ksl1_er, fSl_e, KTy_ok, KTy_er, sTry_e, KB_rt, KB_nx, KB_er, runB_e, outs_nil, outs_0, gsNil_e, gsCons_e, gTp_t, e3, e4, List.getElem?_cons_succ, List.getElem?_cons_zero, List.set_cons_succ, List.set_cons_zero, Int.zero_add]
theorem hg_le : ∀ (n : Nat) (L : List D), hg n L ≤ n
  | 0, _ => Nat.le_refl _
  | n + 1, L => by
    unfold hg
    have := hg_le n (L.flatMap within)
    split <;> omega
end Q68
set_option maxHeartbeats 4000000
namespace Q68
open PySem PySem.Spec Pl
theorem q_x_x : gEq (.str "x") (.str "x") = some (.bl true) := by kernel_rfl
theorem q_x_whole : gEq (.str "x") (.str "whole") = some (.bl false) := by kernel_rfl
theorem q_x_negative : gEq (.str "x") (.str "negative") = some (.bl false) := by kernel_rfl
theorem q_x_log : gEq (.str "x") (.str "log") = some (.bl false) := by kernel_rfl
theorem q_x_exp : gEq (.str "x") (.str "exp") = some (.bl false) := by kernel_rfl
theorem q_x_plus : gEq (.str "x") (.str "plus") = some (.bl false) := by kernel_rfl
theorem q_x_minus : gEq (.str "x") (.str "minus") = some (.bl false) := by kernel_rfl
theorem q_x_times : gEq (.str "x") (.str "times") = some (.bl false) := by kernel_rfl
theorem q_x_over : gEq (.str "x") (.str "over") = some (.bl false) := by kernel_rfl
theorem q_x_power : gEq (.str "x") (.str "power") = some (.bl false) := by kernel_rfl
theorem iw_x : gIn false (.str "x") (.tup [.str "whole", .str "x"]) = some (.bl true) := by kernel_rfl
theorem ip_x : gIn false (.str "x") (.tup [.str "plus", .str "minus"]) = some (.bl false) := by kernel_rfl
theorem q_whole_x : gEq (.str "whole") (.str "x") = some (.bl false) := by kernel_rfl
theorem q_whole_whole : gEq (.str "whole") (.str "whole") = some (.bl true) := by kernel_rfl
theorem q_whole_negative : gEq (.str "whole") (.str "negative") = some (.bl false) := by kernel_rfl
theorem q_whole_log : gEq (.str "whole") (.str "log") = some (.bl false) := by kernel_rfl
theorem q_whole_exp : gEq (.str "whole") (.str "exp") = some (.bl false) := by kernel_rfl
theorem q_whole_plus : gEq (.str "whole") (.str "plus") = some (.bl false) := by kernel_rfl
theorem q_whole_minus : gEq (.str "whole") (.str "minus") = some (.bl false) := by kernel_rfl
theorem q_whole_times : gEq (.str "whole") (.str "times") = some (.bl false) := by kernel_rfl
theorem q_whole_over : gEq (.str "whole") (.str "over") = some (.bl false) := by kernel_rfl
theorem q_whole_power : gEq (.str "whole") (.str "power") = some (.bl false) := by kernel_rfl
theorem iw_whole : gIn false (.str "whole") (.tup [.str "whole", .str "x"]) = some (.bl true) := by kernel_rfl
theorem ip_whole : gIn false (.str "whole") (.tup [.str "plus", .str "minus"]) = some (.bl false) := by kernel_rfl
theorem q_negative_x : gEq (.str "negative") (.str "x") = some (.bl false) := by kernel_rfl
theorem q_negative_whole : gEq (.str "negative") (.str "whole") = some (.bl false) := by kernel_rfl
theorem q_negative_negative : gEq (.str "negative") (.str "negative") = some (.bl true) := by kernel_rfl
theorem q_negative_log : gEq (.str "negative") (.str "log") = some (.bl false) := by kernel_rfl
theorem q_negative_exp : gEq (.str "negative") (.str "exp") = some (.bl false) := by kernel_rfl
theorem q_negative_plus : gEq (.str "negative") (.str "plus") = some (.bl false) := by kernel_rfl
theorem q_negative_minus : gEq (.str "negative") (.str "minus") = some (.bl false) := by kernel_rfl
theorem q_negative_times : gEq (.str "negative") (.str "times") = some (.bl false) := by kernel_rfl
theorem q_negative_over : gEq (.str "negative") (.str "over") = some (.bl false) := by kernel_rfl
theorem q_negative_power : gEq (.str "negative") (.str "power") = some (.bl false) := by kernel_rfl
theorem iw_negative : gIn false (.str "negative") (.tup [.str "whole", .str "x"]) = some (.bl false) := by kernel_rfl
theorem ip_negative : gIn false (.str "negative") (.tup [.str "plus", .str "minus"]) = some (.bl false) := by kernel_rfl
theorem q_log_x : gEq (.str "log") (.str "x") = some (.bl false) := by kernel_rfl
theorem q_log_whole : gEq (.str "log") (.str "whole") = some (.bl false) := by kernel_rfl
theorem q_log_negative : gEq (.str "log") (.str "negative") = some (.bl false) := by kernel_rfl
theorem q_log_log : gEq (.str "log") (.str "log") = some (.bl true) := by kernel_rfl
theorem q_log_exp : gEq (.str "log") (.str "exp") = some (.bl false) := by kernel_rfl
theorem q_log_plus : gEq (.str "log") (.str "plus") = some (.bl false) := by kernel_rfl
theorem q_log_minus : gEq (.str "log") (.str "minus") = some (.bl false) := by kernel_rfl
theorem q_log_times : gEq (.str "log") (.str "times") = some (.bl false) := by kernel_rfl
theorem q_log_over : gEq (.str "log") (.str "over") = some (.bl false) := by kernel_rfl
theorem q_log_power : gEq (.str "log") (.str "power") = some (.bl false) := by kernel_rfl
theorem iw_log : gIn false (.str "log") (.tup [.str "whole", .str "x"]) = some (.bl false) := by kernel_rfl
theorem ip_log : gIn false (.str "log") (.tup [.str "plus", .str "minus"]) = some (.bl false) := by kernel_rfl
theorem q_exp_x : gEq (.str "exp") (.str "x") = some (.bl false) := by kernel_rfl
theorem q_exp_whole : gEq (.str "exp") (.str "whole") = some (.bl false) := by kernel_rfl
theorem q_exp_negative : gEq (.str "exp") (.str "negative") = some (.bl false) := by kernel_rfl
theorem q_exp_log : gEq (.str "exp") (.str "log") = some (.bl false) := by kernel_rfl
theorem q_exp_exp : gEq (.str "exp") (.str "exp") = some (.bl true) := by kernel_rfl
theorem q_exp_plus : gEq (.str "exp") (.str "plus") = some (.bl false) := by kernel_rfl
theorem q_exp_minus : gEq (.str "exp") (.str "minus") = some (.bl false) := by kernel_rfl
theorem q_exp_times : gEq (.str "exp") (.str "times") = some (.bl false) := by kernel_rfl
theorem q_exp_over : gEq (.str "exp") (.str "over") = some (.bl false) := by kernel_rfl
theorem q_exp_power : gEq (.str "exp") (.str "power") = some (.bl false) := by kernel_rfl
theorem iw_exp : gIn false (.str "exp") (.tup [.str "whole", .str "x"]) = some (.bl false) := by kernel_rfl
theorem ip_exp : gIn false (.str "exp") (.tup [.str "plus", .str "minus"]) = some (.bl false) := by kernel_rfl
theorem q_plus_x : gEq (.str "plus") (.str "x") = some (.bl false) := by kernel_rfl
theorem q_plus_whole : gEq (.str "plus") (.str "whole") = some (.bl false) := by kernel_rfl
theorem q_plus_negative : gEq (.str "plus") (.str "negative") = some (.bl false) := by kernel_rfl
theorem q_plus_log : gEq (.str "plus") (.str "log") = some (.bl false) := by kernel_rfl
theorem q_plus_exp : gEq (.str "plus") (.str "exp") = some (.bl false) := by kernel_rfl
theorem q_plus_plus : gEq (.str "plus") (.str "plus") = some (.bl true) := by kernel_rfl
theorem q_plus_minus : gEq (.str "plus") (.str "minus") = some (.bl false) := by kernel_rfl
theorem q_plus_times : gEq (.str "plus") (.str "times") = some (.bl false) := by kernel_rfl
theorem q_plus_over : gEq (.str "plus") (.str "over") = some (.bl false) := by kernel_rfl
theorem q_plus_power : gEq (.str "plus") (.str "power") = some (.bl false) := by kernel_rfl
theorem iw_plus : gIn false (.str "plus") (.tup [.str "whole", .str "x"]) = some (.bl false) := by kernel_rfl
theorem ip_plus : gIn false (.str "plus") (.tup [.str "plus", .str "minus"]) = some (.bl true) := by kernel_rfl
theorem q_minus_x : gEq (.str "minus") (.str "x") = some (.bl false) := by kernel_rfl
theorem q_minus_whole : gEq (.str "minus") (.str "whole") = some (.bl false) := by kernel_rfl
theorem q_minus_negative : gEq (.str "minus") (.str "negative") = some (.bl false) := by kernel_rfl
theorem q_minus_log : gEq (.str "minus") (.str "log") = some (.bl false) := by kernel_rfl
theorem q_minus_exp : gEq (.str "minus") (.str "exp") = some (.bl false) := by kernel_rfl
theorem q_minus_plus : gEq (.str "minus") (.str "plus") = some (.bl false) := by kernel_rfl
theorem q_minus_minus : gEq (.str "minus") (.str "minus") = some (.bl true) := by kernel_rfl
theorem q_minus_times : gEq (.str "minus") (.str "times") = some (.bl false) := by kernel_rfl
theorem q_minus_over : gEq (.str "minus") (.str "over") = some (.bl false) := by kernel_rfl
theorem q_minus_power : gEq (.str "minus") (.str "power") = some (.bl false) := by kernel_rfl
theorem iw_minus : gIn false (.str "minus") (.tup [.str "whole", .str "x"]) = some (.bl false) := by kernel_rfl
theorem ip_minus : gIn false (.str "minus") (.tup [.str "plus", .str "minus"]) = some (.bl true) := by kernel_rfl
theorem q_times_x : gEq (.str "times") (.str "x") = some (.bl false) := by kernel_rfl
theorem q_times_whole : gEq (.str "times") (.str "whole") = some (.bl false) := by kernel_rfl
theorem q_times_negative : gEq (.str "times") (.str "negative") = some (.bl false) := by kernel_rfl
theorem q_times_log : gEq (.str "times") (.str "log") = some (.bl false) := by kernel_rfl
theorem q_times_exp : gEq (.str "times") (.str "exp") = some (.bl false) := by kernel_rfl
theorem q_times_plus : gEq (.str "times") (.str "plus") = some (.bl false) := by kernel_rfl
theorem q_times_minus : gEq (.str "times") (.str "minus") = some (.bl false) := by kernel_rfl
theorem q_times_times : gEq (.str "times") (.str "times") = some (.bl true) := by kernel_rfl
theorem q_times_over : gEq (.str "times") (.str "over") = some (.bl false) := by kernel_rfl
theorem q_times_power : gEq (.str "times") (.str "power") = some (.bl false) := by kernel_rfl
theorem iw_times : gIn false (.str "times") (.tup [.str "whole", .str "x"]) = some (.bl false) := by kernel_rfl
theorem ip_times : gIn false (.str "times") (.tup [.str "plus", .str "minus"]) = some (.bl false) := by kernel_rfl
theorem q_over_x : gEq (.str "over") (.str "x") = some (.bl false) := by kernel_rfl
theorem q_over_whole : gEq (.str "over") (.str "whole") = some (.bl false) := by kernel_rfl
theorem q_over_negative : gEq (.str "over") (.str "negative") = some (.bl false) := by kernel_rfl
theorem q_over_log : gEq (.str "over") (.str "log") = some (.bl false) := by kernel_rfl
theorem q_over_exp : gEq (.str "over") (.str "exp") = some (.bl false) := by kernel_rfl
theorem q_over_plus : gEq (.str "over") (.str "plus") = some (.bl false) := by kernel_rfl
theorem q_over_minus : gEq (.str "over") (.str "minus") = some (.bl false) := by kernel_rfl
theorem q_over_times : gEq (.str "over") (.str "times") = some (.bl false) := by kernel_rfl
theorem q_over_over : gEq (.str "over") (.str "over") = some (.bl true) := by kernel_rfl
theorem q_over_power : gEq (.str "over") (.str "power") = some (.bl false) := by kernel_rfl
theorem iw_over : gIn false (.str "over") (.tup [.str "whole", .str "x"]) = some (.bl false) := by kernel_rfl
theorem ip_over : gIn false (.str "over") (.tup [.str "plus", .str "minus"]) = some (.bl false) := by kernel_rfl
theorem q_power_x : gEq (.str "power") (.str "x") = some (.bl false) := by kernel_rfl
theorem q_power_whole : gEq (.str "power") (.str "whole") = some (.bl false) := by kernel_rfl
theorem q_power_negative : gEq (.str "power") (.str "negative") = some (.bl false) := by kernel_rfl
theorem q_power_log : gEq (.str "power") (.str "log") = some (.bl false) := by kernel_rfl
theorem q_power_exp : gEq (.str "power") (.str "exp") = some (.bl false) := by kernel_rfl
theorem q_power_plus : gEq (.str "power") (.str "plus") = some (.bl false) := by kernel_rfl
theorem q_power_minus : gEq (.str "power") (.str "minus") = some (.bl false) := by kernel_rfl
theorem q_power_times : gEq (.str "power") (.str "times") = some (.bl false) := by kernel_rfl
theorem q_power_over : gEq (.str "power") (.str "over") = some (.bl false) := by kernel_rfl
theorem q_power_power : gEq (.str "power") (.str "power") = some (.bl true) := by kernel_rfl
theorem iw_power : gIn false (.str "power") (.tup [.str "whole", .str "x"]) = some (.bl false) := by kernel_rfl
theorem ip_power : gIn false (.str "power") (.tup [.str "plus", .str "minus"]) = some (.bl false) := by kernel_rfl
theorem gt1 {ds : List D} (h : ds.length ≤ 1000) : gTup ds = some (.tup ds) := by
  have e : lnOk ds.length = true := lnOk_of (by omega)
  unfold gTup
  simp only [e, if_true]
theorem gt_0 : gTup [] = some (.tup []) := gt1 (by show 0 ≤ 1000; omega)
theorem gt_1 (a : D) : gTup [a] = some (.tup [a]) := gt1 (by show 1 ≤ 1000; omega)
theorem gt_2 (a b : D) : gTup [a, b] = some (.tup [a, b]) := gt1 (by show 2 ≤ 1000; omega)
theorem gt_3 (a b c : D) : gTup [a, b, c] = some (.tup [a, b, c]) := gt1 (by show 3 ≤ 1000; omega)
/-! ### the count -/
theorem cnt_loop {X : Option D} {R : FD} {f : D → D} : ∀ ps : List D, (∀ p ∈ ps, R [p] = .ok (f p, [])) → loopC (gNm 1) tYs (fCall R (aCons (fv 1) aNil)) [1] ps [X, none] = some (ps.map f, [X, none])
  | [], _ => rfl
  | p :: ps, h => by
    have ih := cnt_loop (X := X) ps fun q m => h q (List.mem_cons_of_mem _ m)
    have e := h p (List.mem_cons_self ..)
    have e1 : fCall R (aCons (fv 1) aNil) [X, some p] = .ok (f p, [X, some p]) := by simp [f0_e, put_so, K1_ok, K1_er, f1_e, K2b_ok, K2b_er, K2_ok, K2_er, f2_e, KN_ok, KN_er, fN_e, aNil_e, KAb_ok, KAb_er, KA_ok, KA_er, aCons_e, fvO_so, fv_e, KT_ok, KT_er, tV_e, KNt_ok, KNt_er, tNt_e, KAn_ok, KAn_er, tAn_e, KOr_ok, KOr_er, tOr'_e, KIe_ok, KIe_er, fIf_e, tYs_e, KEa_ok, eAn_e, KEo_ok, eOr_e, KCh3_ok, KCh3_er, KCh2_ok, KChO_so, KCh1_ok, KCh1_er, fCh_e, sNx_e, sBk_e, sCt_e, sRetN_e, sRaise_e, KS_nx, KS_rt, KS_bk, KS_ct, KS_er, sSeq_e, KIf_ok, KIf_er, sIf_e, KG_ok, KG_er, sAsg_e, nxt_so, gNm_e, KR_ok, KR_er, sRet_e, KD_ok, KD_er, sDrop_e, KP_ok, sPar_e, KF_ok, KF_er, sFor_e, KOw_ok, KOw_er, sOwn_e, KnL_ok, KnL_er, nLst_e, lsO_so, lstAt_e, KoIo_so, KoI_ok, oIx_e, KoL_so, oLen_e, KoAo_so, KoA_ok, KoA_er, oApp_e, KoEo_so, KoE_ok, oExt_e, KsIo2_so, KsIo_so, KsI2_ok, KsI_ok, KsI_er, sSetI_e, KC2_ok, KC2_er, KC_ok, KC_er, fCall_e, KI2_ok, KIo_so, KI_ok, fCallIo_e, KnC2_ok, KnC_ok, KnC_er, nCall_e, KsQ_t, KsQ_l, KsQ_f, iSeq_e, KsE_t, KsE_l, iEn_e, KR1_ok, iRn1_e, KL_ok, KL_er, lstE_e, Kc1_ok, Kc1_er, compN_e, Kc2_ok, Kc2_er, compN2_e, fitL_so, KoP_ok, oPt_e, oNo_e, Ksl3_ok, Ksl3_er, Ksl2_ok, Ksl2_er, Ksl1_ok, Ksl1_er, fSl_e, KTy_ok, KTy_er, sTry_e, KB_rt, KB_nx, KB_er, runB_e, outs_nil, outs_0, gsNil_e, gsCons_e, gTp_t, e]
    show ((ne (fCall R (aCons (fv 1) aNil) [X, some p])).bind fun r => (loopC (gNm 1) tYs (fCall R (aCons (fv 1) aNil)) [1] ps (wipeL r.2 [1])).bind fun z => some (r.1 :: z.1, z.2)) = _
    rw [e1]
    show ((loopC (gNm 1) tYs (fCall R (aCons (fv 1) aNil)) [1] ps [X, none]).bind fun z => some (f p :: z.1, z.2)) = _
    rw [ih] <;> rfl
theorem ints_map (f : D → Nat) : ∀ L : List D, intsD (L.map fun d => D.int (f d)) = some (L.map fun d => (f d : Int))
  | [] => rfl
  | d :: L => by
    show (intsD (L.map fun d => D.int (f d))).map ((f d : Int) :: ·) = _
    rw [ints_map f L] <;> rfl
theorem isum (f : D → Nat) : ∀ L : List D, (L.map fun d => (f d : Int)).sum = ((L.map f).sum : Nat)
  | [] => rfl
  | d :: L => by
    rw [List.map_cons, List.sum_cons, List.map_cons, List.sum_cons, isum f L]
    omega
theorem gsum_ok (f : D → Nat) (L : List D) : gSum [.lst (L.map fun d => D.int (f d))] = some (.int ((L.map f).sum : Nat)) := by
  show (intsD (L.map fun d => D.int (f d))).map (fun ns => D.int ns.sum) = _
  rw [ints_map, Option.map_some, isum]
theorem count_step {n : Nat} {d : D} {R : FD} (h : WF (n + 1) d) (hR : ∀ p ∈ within d, R [p] = .ok (.int (cnt n p : Nat), [])) : runB 2 [] (d__law_count R) [d] = .ok (.int (cnt (n + 1) d : Nat), []) := by
  have e := lparts_ok h
  have hl := cnt_loop (X := some d) (within d) hR
  have hs := gsum_ok (cnt n) (within d)
  have l2 := (parts_ok h.nice_ h.good_).2.2.2
  have ln : lnOk ((within d).map fun p => D.int (cnt n p : Nat)).length = true := lnOk_of (by rw [List.length_map]; omega)
  have ec : cnt (n + 1) d = 1 + ((within d).map (cnt n)).sum := rfl
  rw [ec]
  generalize ((within d).map (cnt n)).sum = S at *
  generalize ((within d).map fun p => D.int (cnt n p : Nat)) = M at *
  generalize within d = W at *
  have ea : gAdd (.int 1) (.int (S : Nat)) = some (.int ((1 + S : Nat) : Int)) := by
    rw [add_s]
    congr 2
  simp [f0_e, put_so, K1_ok, K1_er, f1_e, K2b_ok, K2b_er, K2_ok, K2_er, f2_e, KN_ok, KN_er, fN_e, aNil_e, KAb_ok, KAb_er, KA_ok, KA_er, aCons_e, fvO_so, fv_e, KT_ok, KT_er, tV_e, KNt_ok, KNt_er, tNt_e, KAn_ok, KAn_er, tAn_e, KOr_ok, KOr_er, tOr'_e, KIe_ok, KIe_er, fIf_e, tYs_e, KEa_ok, eAn_e, KEo_ok, eOr_e, KCh3_ok, KCh3_er, KCh2_ok, KChO_so, KCh1_ok, KCh1_er, fCh_e, sNx_e, sBk_e, sCt_e, sRetN_e, sRaise_e, KS_nx, KS_rt, KS_bk, KS_ct, KS_er, sSeq_e, KIf_ok, KIf_er, sIf_e, KG_ok, KG_er, sAsg_e, nxt_so, gNm_e, KR_ok, KR_er, sRet_e, KD_ok, KD_er, sDrop_e, KP_ok, sPar_e, KF_ok, KF_er, sFor_e, KOw_ok, KOw_er, sOwn_e, KnL_ok, KnL_er, nLst_e, lsO_so, lstAt_e, KoIo_so, KoI_ok, oIx_e, KoL_so, oLen_e, KoAo_so, KoA_ok, KoA_er, oApp_e, KoEo_so, KoE_ok, oExt_e, KsIo2_so, KsIo_so, KsI2_ok, KsI_ok, KsI_er, sSetI_e, KC2_ok, KC2_er, KC_ok, KC_er, fCall_e, KI2_ok, KIo_so, KI_ok, fCallIo_e, KnC2_ok, KnC_ok, KnC_er, nCall_e, KsQ_t, KsQ_l, KsQ_f, iSeq_e, KsE_t, KsE_l, iEn_e, KR1_ok, iRn1_e, KL_ok, KL_er, lstE_e, Kc1_ok, Kc1_er, compN_e, Kc2_ok, Kc2_er, compN2_e, fitL_so, KoP_ok, oPt_e, oNo_e, Ksl3_ok, Ksl3_er, Ksl2_ok, Ksl2_er, Ksl1_ok, Ksl1_er, fSl_e, KTy_ok, KTy_er, sTry_e, KB_rt, KB_nx, KB_er, runB_e, outs_nil, outs_0, gsNil_e, gsCons_e, gTp_t, d__law_count, e, hl, hs, ln, ea, wipeL, resL]
theorem count_ok : ∀ (n m : Nat) (d : D), WF n d → n ≤ m → F__law_count m [d] = .ok (.int (cnt n d : Nat), [])
  | 0, _, _, h, _ => h.elim
  | n + 1, 0, _, _, l => by omega
  | n + 1, m + 1, d, h, l => count_step h fun p q => count_ok n m p (h.2.2 p q) (by omega)
/-! ### the slope -/
abbrev W1 (i : Int) : D := .tup [.str "whole", .int i]
abbrev T2 (s : Str) (a : D) : D := .tup [.str s, a]
abbrev T3 (s : Str) (a b : D) : D := .tup [.str s, a, b]
/-- the slope, told rule by rule -/
def slp : Nat → D → D
  | 0, _ => .non
  | n + 1, .tup [.str s, a] => if s == ("whole" : Str) then W1 0 else if s == ("negative" : Str) then T2 "negative" (slp n a) else if s == ("log" : Str) then T3 "over" (slp n a) a else T3 "times" (slp n a) (T2 "exp" a)
  | n + 1, .tup [.str s, a, b] => if s == ("power" : Str) then (match b with | .int i => if i = 0 then W1 0 else T3 "times" (T3 "times" (W1 i) (T3 "power" a (.int (i - 1)))) (slp n a) | _ => .non)
    else if s == ("times" : Str) then T3 "plus" (T3 "times" (slp n a) b) (T3 "times" a (slp n b))
    else if s == ("over" : Str) then T3 "over" (T3 "minus" (T3 "times" (slp n a) b) (T3 "times" a (slp n b))) (T3 "power" b (.int 2))
    else T3 s (slp n a) (slp n b)
  | _ + 1, _ => W1 1
theorem slp_cases {n : Nat} {d : D} (h : WF (n + 1) d) {P : D → D → Prop} (hx : P (.tup [.str "x"]) (W1 1)) (hw : ∀ i : Int, P (.tup [.str "whole", .int i]) (W1 0))
    (hneg : ∀ a, d = T2 "negative" a → within d = [a] → P (T2 "negative" a) (T2 "negative" (slp n a))) (hlog : ∀ a, d = T2 "log" a → within d = [a] → P (T2 "log" a) (T3 "over" (slp n a) a)) (hexp : ∀ a, d = T2 "exp" a → within d = [a] → P (T2 "exp" a) (T3 "times" (slp n a) (T2 "exp" a)))
    (hp0 : ∀ a, d = T3 "power" a (.int 0) → within d = [a] → P (T3 "power" a (.int 0)) (W1 0)) (hp : ∀ a, ∀ i : Int, d = T3 "power" a (.int i) → within d = [a] → 0 < i → i ≤ 12 → P (T3 "power" a (.int i)) (T3 "times" (T3 "times" (W1 i) (T3 "power" a (.int (i - 1)))) (slp n a)))
    (hplus : ∀ a b, d = T3 "plus" a b → within d = [a, b] → P (T3 "plus" a b) (T3 "plus" (slp n a) (slp n b))) (hminus : ∀ a b, d = T3 "minus" a b → within d = [a, b] → P (T3 "minus" a b) (T3 "minus" (slp n a) (slp n b)))
    (htimes : ∀ a b, d = T3 "times" a b → within d = [a, b] → P (T3 "times" a b) (T3 "plus" (T3 "times" (slp n a) b) (T3 "times" a (slp n b)))) (hover : ∀ a b, d = T3 "over" a b → within d = [a, b] → P (T3 "over" a b) (T3 "over" (T3 "minus" (T3 "times" (slp n a) b) (T3 "times" a (slp n b))) (T3 "power" b (.int 2)))) : P d (slp (n + 1) d) := by
  rcases good_cases h.nice_ h.good_ with rfl | ⟨i, rfl, _, _⟩ | ⟨s, a, rfl, hs, ha⟩ | ⟨a, i, rfl, i0, i1, ha⟩ | ⟨s, a, b, rfl, hs, ha, hb⟩
  · exact hx
  · have e : slp (n + 1) (.tup [.str "whole", .int i]) = W1 0 := by kernel_rfl
    rw [e]
    exact hw i
  · rcases ones_cases hs with rfl | rfl | rfl
    · have e : slp (n + 1) (.tup [.str "negative", a]) = T2 "negative" (slp n a) := by kernel_rfl
      rw [e]
      exact hneg a rfl (by kernel_rfl)
    · have e : slp (n + 1) (.tup [.str "log", a]) = T3 "over" (slp n a) a := by kernel_rfl
      rw [e]
      exact hlog a rfl (by kernel_rfl)
    · have e : slp (n + 1) (.tup [.str "exp", a]) = T3 "times" (slp n a) (T2 "exp" a) := by kernel_rfl
      rw [e]
      exact hexp a rfl (by kernel_rfl)
  · have e : slp (n + 1) (.tup [.str "power", a, .int i]) = if i = 0 then W1 0 else T3 "times" (T3 "times" (W1 i) (T3 "power" a (.int (i - 1)))) (slp n a) := by kernel_rfl
    rw [e]
    by_cases hi : i = 0
    · subst hi
      rw [if_pos rfl]
      exact hp0 a rfl (by kernel_rfl)
    · rw [if_neg hi]
      exact hp a i rfl (by kernel_rfl) (by omega) i1
  · rcases pairs_cases hs with rfl | rfl | rfl | rfl
    · have e : slp (n + 1) (.tup [.str "plus", a, b]) = T3 "plus" (slp n a) (slp n b) := by kernel_rfl
      rw [e]
      exact hplus a b rfl (by kernel_rfl)
    · have e : slp (n + 1) (.tup [.str "minus", a, b]) = T3 "minus" (slp n a) (slp n b) := by kernel_rfl
      rw [e]
      exact hminus a b rfl (by kernel_rfl)
    · have e : slp (n + 1) (.tup [.str "times", a, b]) = T3 "plus" (T3 "times" (slp n a) b) (T3 "times" a (slp n b)) := by kernel_rfl
      rw [e]
      exact htimes a b rfl (by kernel_rfl)
    · have e : slp (n + 1) (.tup [.str "over", a, b]) = T3 "over" (T3 "minus" (T3 "times" (slp n a) b) (T3 "times" a (slp n b))) (T3 "power" b (.int 2)) := by kernel_rfl
      rw [e]
      exact hover a b rfl (by kernel_rfl)
theorem eq_i0 {i : Int} (h : ¬ i = 0) : gEq (.int i) (.int 0) = some (.bl false) := by
  rw [eq_ii]
  congr 2
  exact beq_eq_false_iff_ne.mpr h
theorem eq_00 : gEq (.int 0) (.int 0) = some (.bl true) := by kernel_rfl
theorem slope_step {n : Nat} {d : D} {R : FD} (h : WF (n + 1) d) (hR : ∀ p ∈ within d, R [p] = .ok (slp n p, [])) : runB 3 [] (d_slope_term R) [d] = .ok (slp (n + 1) d, []) := by
  refine slp_cases (P := fun d r => runB 3 [] (d_slope_term R) [d] = .ok (r, [])) h ?_ ?_ ?_ ?_ ?_ ?_ ?_ ?_ ?_ ?_ ?_
  · kernel_rfl
  · intro i
    simp [f0_e, put_so, K1_ok, K1_er, f1_e, K2b_ok, K2b_er, K2_ok, K2_er, f2_e, KN_ok, KN_er, fN_e, aNil_e, KAb_ok, KAb_er, KA_ok, KA_er, aCons_e, fvO_so, fv_e, KT_ok, KT_er, tV_e, KNt_ok, KNt_er, tNt_e, KAn_ok, KAn_er, tAn_e, KOr_ok, KOr_er, tOr'_e, KIe_ok, KIe_er, fIf_e, tYs_e, KEa_ok, eAn_e, KEo_ok, eOr_e, KCh3_ok, KCh3_er, KCh2_ok, KChO_so, KCh1_ok, KCh1_er, fCh_e, sNx_e, sBk_e, sCt_e, sRetN_e, sRaise_e, KS_nx, KS_rt, KS_bk, KS_ct, KS_er, sSeq_e, KIf_ok, KIf_er, sIf_e, KG_ok, KG_er, sAsg_e, nxt_so, gNm_e, KR_ok, KR_er, sRet_e, KD_ok, KD_er, sDrop_e, KP_ok, sPar_e, KF_ok, KF_er, sFor_e, KOw_ok, KOw_er, sOwn_e, KnL_ok, KnL_er, nLst_e, lsO_so, lstAt_e, KoIo_so, KoI_ok, oIx_e, KoL_so, oLen_e, KoAo_so, KoA_ok, KoA_er, oApp_e, KoEo_so, KoE_ok, oExt_e, KsIo2_so, KsIo_so, KsI2_ok, KsI_ok, KsI_er, sSetI_e, KC2_ok, KC2_er, KC_ok, KC_er, fCall_e, KI2_ok, KIo_so, KI_ok, fCallIo_e, KnC2_ok, KnC_ok, KnC_er, nCall_e, KsQ_t, KsQ_l, KsQ_f, iSeq_e, KsE_t, KsE_l, iEn_e, KR1_ok, iRn1_e, KL_ok, KL_er, lstE_e, Kc1_ok, Kc1_er, compN_e, Kc2_ok, Kc2_er, compN2_e, fitL_so, KoP_ok, oPt_e, oNo_e, Ksl3_ok, Ksl3_er, Ksl2_ok, Ksl2_er, Ksl1_ok, Ksl1_er, fSl_e, KTy_ok, KTy_er, sTry_e, KB_rt, KB_nx, KB_er, runB_e, outs_nil, outs_0, gsNil_e, gsCons_e, gTp_t, d_slope_term, q_x_x, q_x_whole, q_x_negative, q_x_log, q_x_exp, q_x_plus, q_x_minus, q_x_times, q_x_over, q_x_power, iw_x, ip_x, q_whole_x, q_whole_whole, q_whole_negative, q_whole_log, q_whole_exp, q_whole_plus, q_whole_minus, q_whole_times, q_whole_over, q_whole_power, iw_whole, ip_whole, q_negative_x, q_negative_whole, q_negative_negative, q_negative_log, q_negative_exp, q_negative_plus, q_negative_minus, q_negative_times, q_negative_over, q_negative_power, iw_negative, ip_negative, q_log_x, q_log_whole, q_log_negative, q_log_log, q_log_exp, q_log_plus, q_log_minus, q_log_times, q_log_over, q_log_power, iw_log, ip_log, q_exp_x, q_exp_whole, q_exp_negative, q_exp_log, q_exp_exp, q_exp_plus, q_exp_minus, q_exp_times, q_exp_over, q_exp_power, iw_exp, ip_exp, q_plus_x, q_plus_whole, q_plus_negative, q_plus_log, q_plus_exp, q_plus_plus, q_plus_minus, q_plus_times, q_plus_over, q_plus_power, iw_plus, ip_plus, q_minus_x, q_minus_whole, q_minus_negative, q_minus_log, q_minus_exp, q_minus_plus, q_minus_minus, q_minus_times, q_minus_over, q_minus_power, iw_minus, ip_minus, q_times_x, q_times_whole, q_times_negative, q_times_log, q_times_exp, q_times_plus, q_times_minus, q_times_times, q_times_over, q_times_power, iw_times, ip_times, q_over_x, q_over_whole, q_over_negative, q_over_log, q_over_exp, q_over_plus, q_over_minus, q_over_times, q_over_over, q_over_power, iw_over, ip_over, q_power_x, q_power_whole, q_power_negative, q_power_log, q_power_exp, q_power_plus, q_power_minus, q_power_times, q_power_over, q_power_power, iw_power, ip_power, gt_2, gIx, L2.atI, L2.ixN]
  · intro a e w
    have r := hR a (by rw [w]; exact List.mem_singleton.mpr rfl)
    simp [f0_e, put_so, K1_ok, K1_er, f1_e, K2b_ok, K2b_er, K2_ok, K2_er, f2_e, KN_ok, KN_er, fN_e, aNil_e, KAb_ok, KAb_er, KA_ok, KA_er, aCons_e, fvO_so, fv_e, KT_ok, KT_er, tV_e, KNt_ok, KNt_er, tNt_e, KAn_ok, KAn_er, tAn_e, KOr_ok, KOr_er, tOr'_e, KIe_ok, KIe_er, fIf_e, tYs_e, KEa_ok, eAn_e, KEo_ok, eOr_e, KCh3_ok, KCh3_er, KCh2_ok, KChO_so, KCh1_ok, KCh1_er, fCh_e, sNx_e, sBk_e, sCt_e, sRetN_e, sRaise_e, KS_nx, KS_rt, KS_bk, KS_ct, KS_er, sSeq_e, KIf_ok, KIf_er, sIf_e, KG_ok, KG_er, sAsg_e, nxt_so, gNm_e, KR_ok, KR_er, sRet_e, KD_ok, KD_er, sDrop_e, KP_ok, sPar_e, KF_ok, KF_er, sFor_e, KOw_ok, KOw_er, sOwn_e, KnL_ok, KnL_er, nLst_e, lsO_so, lstAt_e, KoIo_so, KoI_ok, oIx_e, KoL_so, oLen_e, KoAo_so, KoA_ok, KoA_er, oApp_e, KoEo_so, KoE_ok, oExt_e, KsIo2_so, KsIo_so, KsI2_ok, KsI_ok, KsI_er, sSetI_e, KC2_ok, KC2_er, KC_ok, KC_er, fCall_e, KI2_ok, KIo_so, KI_ok, fCallIo_e, KnC2_ok, KnC_ok, KnC_er, nCall_e, KsQ_t, KsQ_l, KsQ_f, iSeq_e, KsE_t, KsE_l, iEn_e, KR1_ok, iRn1_e, KL_ok, KL_er, lstE_e, Kc1_ok, Kc1_er, compN_e, Kc2_ok, Kc2_er, compN2_e, fitL_so, KoP_ok, oPt_e, oNo_e, Ksl3_ok, Ksl3_er, Ksl2_ok, Ksl2_er, Ksl1_ok, Ksl1_er, fSl_e, KTy_ok, KTy_er, sTry_e, KB_rt, KB_nx, KB_er, runB_e, outs_nil, outs_0, gsNil_e, gsCons_e, gTp_t, d_slope_term, q_x_x, q_x_whole, q_x_negative, q_x_log, q_x_exp, q_x_plus, q_x_minus, q_x_times, q_x_over, q_x_power, iw_x, ip_x, q_whole_x, q_whole_whole, q_whole_negative, q_whole_log, q_whole_exp, q_whole_plus, q_whole_minus, q_whole_times, q_whole_over, q_whole_power, iw_whole, ip_whole, q_negative_x, q_negative_whole, q_negative_negative, q_negative_log, q_negative_exp, q_negative_plus, q_negative_minus, q_negative_times, q_negative_over, q_negative_power, iw_negative, ip_negative, q_log_x, q_log_whole, q_log_negative, q_log_log, q_log_exp, q_log_plus, q_log_minus, q_log_times, q_log_over, q_log_power, iw_log, ip_log, q_exp_x, q_exp_whole, q_exp_negative, q_exp_log, q_exp_exp, q_exp_plus, q_exp_minus, q_exp_times, q_exp_over, q_exp_power, iw_exp, ip_exp, q_plus_x, q_plus_whole, q_plus_negative, q_plus_log, q_plus_exp, q_plus_plus, q_plus_minus, q_plus_times, q_plus_over, q_plus_power, iw_plus, ip_plus, q_minus_x, q_minus_whole, q_minus_negative, q_minus_log, q_minus_exp, q_minus_plus, q_minus_minus, q_minus_times, q_minus_over, q_minus_power, iw_minus, ip_minus, q_times_x, q_times_whole, q_times_negative, q_times_log, q_times_exp, q_times_plus, q_times_minus, q_times_times, q_times_over, q_times_power, iw_times, ip_times, q_over_x, q_over_whole, q_over_negative, q_over_log, q_over_exp, q_over_plus, q_over_minus, q_over_times, q_over_over, q_over_power, iw_over, ip_over, q_power_x, q_power_whole, q_power_negative, q_power_log, q_power_exp, q_power_plus, q_power_minus, q_power_times, q_power_over, q_power_power, iw_power, ip_power, gt_2, gt_3, gIx, L2.atI, L2.ixN, r]
  · intro a e w
    have r := hR a (by rw [w]; exact List.mem_singleton.mpr rfl)
    simp [f0_e, put_so, K1_ok, K1_er, f1_e, K2b_ok, K2b_er, K2_ok, K2_er, f2_e, KN_ok, KN_er, fN_e, aNil_e, KAb_ok, KAb_er, KA_ok, KA_er, aCons_e, fvO_so, fv_e, KT_ok, KT_er, tV_e, KNt_ok, KNt_er, tNt_e, KAn_ok, KAn_er, tAn_e, KOr_ok, KOr_er, tOr'_e, KIe_ok, KIe_er, fIf_e, tYs_e, KEa_ok, eAn_e, KEo_ok, eOr_e, KCh3_ok, KCh3_er, KCh2_ok, KChO_so, KCh1_ok, KCh1_er, fCh_e, sNx_e, sBk_e, sCt_e, sRetN_e, sRaise_e, KS_nx, KS_rt, KS_bk, KS_ct, KS_er, sSeq_e, KIf_ok, KIf_er, sIf_e, KG_ok, KG_er, sAsg_e, nxt_so, gNm_e, KR_ok, KR_er, sRet_e, KD_ok, KD_er, sDrop_e, KP_ok, sPar_e, KF_ok, KF_er, sFor_e, KOw_ok, KOw_er, sOwn_e, KnL_ok, KnL_er, nLst_e, lsO_so, lstAt_e, KoIo_so, KoI_ok, oIx_e, KoL_so, oLen_e, KoAo_so, KoA_ok, KoA_er, oApp_e, KoEo_so, KoE_ok, oExt_e, KsIo2_so, KsIo_so, KsI2_ok, KsI_ok, KsI_er, sSetI_e, KC2_ok, KC2_er, KC_ok, KC_er, fCall_e, KI2_ok, KIo_so, KI_ok, fCallIo_e, KnC2_ok, KnC_ok, KnC_er, nCall_e, KsQ_t, KsQ_l, KsQ_f, iSeq_e, KsE_t, KsE_l, iEn_e, KR1_ok, iRn1_e, KL_ok, KL_er, lstE_e, Kc1_ok, Kc1_er, compN_e, Kc2_ok, Kc2_er, compN2_e, fitL_so, KoP_ok, oPt_e, oNo_e, Ksl3_ok, Ksl3_er, Ksl2_ok, Ksl2_er, Ksl1_ok, Ksl1_er, fSl_e, KTy_ok, KTy_er, sTry_e, KB_rt, KB_nx, KB_er, runB_e, outs_nil, outs_0, gsNil_e, gsCons_e, gTp_t, d_slope_term, q_x_x, q_x_whole, q_x_negative, q_x_log, q_x_exp, q_x_plus, q_x_minus, q_x_times, q_x_over, q_x_power, iw_x, ip_x, q_whole_x, q_whole_whole, q_whole_negative, q_whole_log, q_whole_exp, q_whole_plus, q_whole_minus, q_whole_times, q_whole_over, q_whole_power, iw_whole, ip_whole, q_negative_x, q_negative_whole, q_negative_negative, q_negative_log, q_negative_exp, q_negative_plus, q_negative_minus, q_negative_times, q_negative_over, q_negative_power, iw_negative, ip_negative, q_log_x, q_log_whole, q_log_negative, q_log_log, q_log_exp, q_log_plus, q_log_minus, q_log_times, q_log_over, q_log_power, iw_log, ip_log, q_exp_x, q_exp_whole, q_exp_negative, q_exp_log, q_exp_exp, q_exp_plus, q_exp_minus, q_exp_times, q_exp_over, q_exp_power, iw_exp, ip_exp, q_plus_x, q_plus_whole, q_plus_negative, q_plus_log, q_plus_exp, q_plus_plus, q_plus_minus, q_plus_times, q_plus_over, q_plus_power, iw_plus, ip_plus, q_minus_x, q_minus_whole, q_minus_negative, q_minus_log, q_minus_exp, q_minus_plus, q_minus_minus, q_minus_times, q_minus_over, q_minus_power, iw_minus, ip_minus, q_times_x, q_times_whole, q_times_negative, q_times_log, q_times_exp, q_times_plus, q_times_minus, q_times_times, q_times_over, q_times_power, iw_times, ip_times, q_over_x, q_over_whole, q_over_negative, q_over_log, q_over_exp, q_over_plus, q_over_minus, q_over_times, q_over_over, q_over_power, iw_over, ip_over, q_power_x, q_power_whole, q_power_negative, q_power_log, q_power_exp, q_power_plus, q_power_minus, q_power_times, q_power_over, q_power_power, iw_power, ip_power, gt_2, gt_3, gIx, L2.atI, L2.ixN, r]
  · intro a e w
    have r := hR a (by rw [w]; exact List.mem_singleton.mpr rfl)
    simp [f0_e, put_so, K1_ok, K1_er, f1_e, K2b_ok, K2b_er, K2_ok, K2_er, f2_e, KN_ok, KN_er, fN_e, aNil_e, KAb_ok, KAb_er, KA_ok, KA_er, aCons_e, fvO_so, fv_e, KT_ok, KT_er, tV_e, KNt_ok, KNt_er, tNt_e, KAn_ok, KAn_er, tAn_e, KOr_ok, KOr_er, tOr'_e, KIe_ok, KIe_er, fIf_e, tYs_e, KEa_ok, eAn_e, KEo_ok, eOr_e, KCh3_ok, KCh3_er, KCh2_ok, KChO_so, KCh1_ok, KCh1_er, fCh_e, sNx_e, sBk_e, sCt_e, sRetN_e, sRaise_e, KS_nx, KS_rt, KS_bk, KS_ct, KS_er, sSeq_e, KIf_ok, KIf_er, sIf_e, KG_ok, KG_er, sAsg_e, nxt_so, gNm_e, KR_ok, KR_er, sRet_e, KD_ok, KD_er, sDrop_e, KP_ok, sPar_e, KF_ok, KF_er, sFor_e, KOw_ok, KOw_er, sOwn_e, KnL_ok, KnL_er, nLst_e, lsO_so, lstAt_e, KoIo_so, KoI_ok, oIx_e, KoL_so, oLen_e, KoAo_so, KoA_ok, KoA_er, oApp_e, KoEo_so, KoE_ok, oExt_e, KsIo2_so, KsIo_so, KsI2_ok, KsI_ok, KsI_er, sSetI_e, KC2_ok, KC2_er, KC_ok, KC_er, fCall_e, KI2_ok, KIo_so, KI_ok, fCallIo_e, KnC2_ok, KnC_ok, KnC_er, nCall_e, KsQ_t, KsQ_l, KsQ_f, iSeq_e, KsE_t, KsE_l, iEn_e, KR1_ok, iRn1_e, KL_ok, KL_er, lstE_e, Kc1_ok, Kc1_er, compN_e, Kc2_ok, Kc2_er, compN2_e, fitL_so, KoP_ok, oPt_e, oNo_e, Ksl3_ok, Ksl3_er, Ksl2_ok, Ksl2_er, Ksl1_ok, Ksl1_er, fSl_e, KTy_ok, KTy_er, sTry_e, KB_rt, KB_nx, KB_er, runB_e, outs_nil, outs_0, gsNil_e, gsCons_e, gTp_t, d_slope_term, q_x_x, q_x_whole, q_x_negative, q_x_log, q_x_exp, q_x_plus, q_x_minus, q_x_times, q_x_over, q_x_power, iw_x, ip_x, q_whole_x, q_whole_whole, q_whole_negative, q_whole_log, q_whole_exp, q_whole_plus, q_whole_minus, q_whole_times, q_whole_over, q_whole_power, iw_whole, ip_whole, q_negative_x, q_negative_whole, q_negative_negative, q_negative_log, q_negative_exp, q_negative_plus, q_negative_minus, q_negative_times, q_negative_over, q_negative_power, iw_negative, ip_negative, q_log_x, q_log_whole, q_log_negative, q_log_log, q_log_exp, q_log_plus, q_log_minus, q_log_times, q_log_over, q_log_power, iw_log, ip_log, q_exp_x, q_exp_whole, q_exp_negative, q_exp_log, q_exp_exp, q_exp_plus, q_exp_minus, q_exp_times, q_exp_over, q_exp_power, iw_exp, ip_exp, q_plus_x, q_plus_whole, q_plus_negative, q_plus_log, q_plus_exp, q_plus_plus, q_plus_minus, q_plus_times, q_plus_over, q_plus_power, iw_plus, ip_plus, q_minus_x, q_minus_whole, q_minus_negative, q_minus_log, q_minus_exp, q_minus_plus, q_minus_minus, q_minus_times, q_minus_over, q_minus_power, iw_minus, ip_minus, q_times_x, q_times_whole, q_times_negative, q_times_log, q_times_exp, q_times_plus, q_times_minus, q_times_times, q_times_over, q_times_power, iw_times, ip_times, q_over_x, q_over_whole, q_over_negative, q_over_log, q_over_exp, q_over_plus, q_over_minus, q_over_times, q_over_over, q_over_power, iw_over, ip_over, q_power_x, q_power_whole, q_power_negative, q_power_log, q_power_exp, q_power_plus, q_power_minus, q_power_times, q_power_over, q_power_power, iw_power, ip_power, gt_2, gt_3, gIx, L2.atI, L2.ixN, r]
  · intro a e w
    have r := hR a (by rw [w]; exact List.mem_singleton.mpr rfl)
    simp [f0_e, put_so, K1_ok, K1_er, f1_e, K2b_ok, K2b_er, K2_ok, K2_er, f2_e, KN_ok, KN_er, fN_e, aNil_e, KAb_ok, KAb_er, KA_ok, KA_er, aCons_e, fvO_so, fv_e, KT_ok, KT_er, tV_e, KNt_ok, KNt_er, tNt_e, KAn_ok, KAn_er, tAn_e, KOr_ok, KOr_er, tOr'_e, KIe_ok, KIe_er, fIf_e, tYs_e, KEa_ok, eAn_e, KEo_ok, eOr_e, KCh3_ok, KCh3_er, KCh2_ok, KChO_so, KCh1_ok, KCh1_er, fCh_e, sNx_e, sBk_e, sCt_e, sRetN_e, sRaise_e, KS_nx, KS_rt, KS_bk, KS_ct, KS_er, sSeq_e, KIf_ok, KIf_er, sIf_e, KG_ok, KG_er, sAsg_e, nxt_so, gNm_e, KR_ok, KR_er, sRet_e, KD_ok, KD_er, sDrop_e, KP_ok, sPar_e, KF_ok, KF_er, sFor_e, KOw_ok, KOw_er, sOwn_e, KnL_ok, KnL_er, nLst_e, lsO_so, lstAt_e, KoIo_so, KoI_ok, oIx_e, KoL_so, oLen_e, KoAo_so, KoA_ok, KoA_er, oApp_e, KoEo_so, KoE_ok, oExt_e, KsIo2_so, KsIo_so, KsI2_ok, KsI_ok, KsI_er, sSetI_e, KC2_ok, KC2_er, KC_ok, KC_er, fCall_e, KI2_ok, KIo_so, KI_ok, fCallIo_e, KnC2_ok, KnC_ok, KnC_er, nCall_e, KsQ_t, KsQ_l, KsQ_f, iSeq_e, KsE_t, KsE_l, iEn_e, KR1_ok, iRn1_e, KL_ok, KL_er, lstE_e, Kc1_ok, Kc1_er, compN_e, Kc2_ok, Kc2_er, compN2_e, fitL_so, KoP_ok, oPt_e, oNo_e, Ksl3_ok, Ksl3_er, Ksl2_ok, Ksl2_er, Ksl1_ok, Ksl1_er, fSl_e, KTy_ok, KTy_er, sTry_e, KB_rt, KB_nx, KB_er, runB_e, outs_nil, outs_0, gsNil_e, gsCons_e, gTp_t, d_slope_term, F_slope_of_power, d_slope_of_power, q_x_x, q_x_whole, q_x_negative, q_x_log, q_x_exp, q_x_plus, q_x_minus, q_x_times, q_x_over, q_x_power, iw_x, ip_x, q_whole_x, q_whole_whole, q_whole_negative, q_whole_log, q_whole_exp, q_whole_plus, q_whole_minus, q_whole_times, q_whole_over, q_whole_power, iw_whole, ip_whole, q_negative_x, q_negative_whole, q_negative_negative, q_negative_log, q_negative_exp, q_negative_plus, q_negative_minus, q_negative_times, q_negative_over, q_negative_power, iw_negative, ip_negative, q_log_x, q_log_whole, q_log_negative, q_log_log, q_log_exp, q_log_plus, q_log_minus, q_log_times, q_log_over, q_log_power, iw_log, ip_log, q_exp_x, q_exp_whole, q_exp_negative, q_exp_log, q_exp_exp, q_exp_plus, q_exp_minus, q_exp_times, q_exp_over, q_exp_power, iw_exp, ip_exp, q_plus_x, q_plus_whole, q_plus_negative, q_plus_log, q_plus_exp, q_plus_plus, q_plus_minus, q_plus_times, q_plus_over, q_plus_power, iw_plus, ip_plus, q_minus_x, q_minus_whole, q_minus_negative, q_minus_log, q_minus_exp, q_minus_plus, q_minus_minus, q_minus_times, q_minus_over, q_minus_power, iw_minus, ip_minus, q_times_x, q_times_whole, q_times_negative, q_times_log, q_times_exp, q_times_plus, q_times_minus, q_times_times, q_times_over, q_times_power, iw_times, ip_times, q_over_x, q_over_whole, q_over_negative, q_over_log, q_over_exp, q_over_plus, q_over_minus, q_over_times, q_over_over, q_over_power, iw_over, ip_over, q_power_x, q_power_whole, q_power_negative, q_power_log, q_power_exp, q_power_plus, q_power_minus, q_power_times, q_power_over, q_power_power, iw_power, ip_power, gt_2, gt_3, gIx, L2.atI, L2.ixN, r, eq_00]
  · intro a i e w i0 i1
    have r := hR a (by rw [w]; exact List.mem_singleton.mpr rfl)
    have z := eq_i0 (i := i) (by omega)
    simp [f0_e, put_so, K1_ok, K1_er, f1_e, K2b_ok, K2b_er, K2_ok, K2_er, f2_e, KN_ok, KN_er, fN_e, aNil_e, KAb_ok, KAb_er, KA_ok, KA_er, aCons_e, fvO_so, fv_e, KT_ok, KT_er, tV_e, KNt_ok, KNt_er, tNt_e, KAn_ok, KAn_er, tAn_e, KOr_ok, KOr_er, tOr'_e, KIe_ok, KIe_er, fIf_e, tYs_e, KEa_ok, eAn_e, KEo_ok, eOr_e, KCh3_ok, KCh3_er, KCh2_ok, KChO_so, KCh1_ok, KCh1_er, fCh_e, sNx_e, sBk_e, sCt_e, sRetN_e, sRaise_e, KS_nx, KS_rt, KS_bk, KS_ct, KS_er, sSeq_e, KIf_ok, KIf_er, sIf_e, KG_ok, KG_er, sAsg_e, nxt_so, gNm_e, KR_ok, KR_er, sRet_e, KD_ok, KD_er, sDrop_e, KP_ok, sPar_e, KF_ok, KF_er, sFor_e, KOw_ok, KOw_er, sOwn_e, KnL_ok, KnL_er, nLst_e, lsO_so, lstAt_e, KoIo_so, KoI_ok, oIx_e, KoL_so, oLen_e, KoAo_so, KoA_ok, KoA_er, oApp_e, KoEo_so, KoE_ok, oExt_e, KsIo2_so, KsIo_so, KsI2_ok, KsI_ok, KsI_er, sSetI_e, KC2_ok, KC2_er, KC_ok, KC_er, fCall_e, KI2_ok, KIo_so, KI_ok, fCallIo_e, KnC2_ok, KnC_ok, KnC_er, nCall_e, KsQ_t, KsQ_l, KsQ_f, iSeq_e, KsE_t, KsE_l, iEn_e, KR1_ok, iRn1_e, KL_ok, KL_er, lstE_e, Kc1_ok, Kc1_er, compN_e, Kc2_ok, Kc2_er, compN2_e, fitL_so, KoP_ok, oPt_e, oNo_e, Ksl3_ok, Ksl3_er, Ksl2_ok, Ksl2_er, Ksl1_ok, Ksl1_er, fSl_e, KTy_ok, KTy_er, sTry_e, KB_rt, KB_nx, KB_er, runB_e, outs_nil, outs_0, gsNil_e, gsCons_e, gTp_t, d_slope_term, F_slope_of_power, d_slope_of_power, q_x_x, q_x_whole, q_x_negative, q_x_log, q_x_exp, q_x_plus, q_x_minus, q_x_times, q_x_over, q_x_power, iw_x, ip_x, q_whole_x, q_whole_whole, q_whole_negative, q_whole_log, q_whole_exp, q_whole_plus, q_whole_minus, q_whole_times, q_whole_over, q_whole_power, iw_whole, ip_whole, q_negative_x, q_negative_whole, q_negative_negative, q_negative_log, q_negative_exp, q_negative_plus, q_negative_minus, q_negative_times, q_negative_over, q_negative_power, iw_negative, ip_negative, q_log_x, q_log_whole, q_log_negative, q_log_log, q_log_exp, q_log_plus, q_log_minus, q_log_times, q_log_over, q_log_power, iw_log, ip_log, q_exp_x, q_exp_whole, q_exp_negative, q_exp_log, q_exp_exp, q_exp_plus, q_exp_minus, q_exp_times, q_exp_over, q_exp_power, iw_exp, ip_exp, q_plus_x, q_plus_whole, q_plus_negative, q_plus_log, q_plus_exp, q_plus_plus, q_plus_minus, q_plus_times, q_plus_over, q_plus_power, iw_plus, ip_plus, q_minus_x, q_minus_whole, q_minus_negative, q_minus_log, q_minus_exp, q_minus_plus, q_minus_minus, q_minus_times, q_minus_over, q_minus_power, iw_minus, ip_minus, q_times_x, q_times_whole, q_times_negative, q_times_log, q_times_exp, q_times_plus, q_times_minus, q_times_times, q_times_over, q_times_power, iw_times, ip_times, q_over_x, q_over_whole, q_over_negative, q_over_log, q_over_exp, q_over_plus, q_over_minus, q_over_times, q_over_over, q_over_power, iw_over, ip_over, q_power_x, q_power_whole, q_power_negative, q_power_log, q_power_exp, q_power_plus, q_power_minus, q_power_times, q_power_over, q_power_power, iw_power, ip_power, gt_2, gt_3, gIx, L2.atI, L2.ixN, r, z, sub_s]
  · intro a b e w
    have r := hR a (by rw [w]; exact List.mem_cons_self ..)
    have r2 := hR b (by rw [w]; exact List.mem_cons_of_mem _ (List.mem_singleton.mpr rfl))
    simp [f0_e, put_so, K1_ok, K1_er, f1_e, K2b_ok, K2b_er, K2_ok, K2_er, f2_e, KN_ok, KN_er, fN_e, aNil_e, KAb_ok, KAb_er, KA_ok, KA_er, aCons_e, fvO_so, fv_e, KT_ok, KT_er, tV_e, KNt_ok, KNt_er, tNt_e, KAn_ok, KAn_er, tAn_e, KOr_ok, KOr_er, tOr'_e, KIe_ok, KIe_er, fIf_e, tYs_e, KEa_ok, eAn_e, KEo_ok, eOr_e, KCh3_ok, KCh3_er, KCh2_ok, KChO_so, KCh1_ok, KCh1_er, fCh_e, sNx_e, sBk_e, sCt_e, sRetN_e, sRaise_e, KS_nx, KS_rt, KS_bk, KS_ct, KS_er, sSeq_e, KIf_ok, KIf_er, sIf_e, KG_ok, KG_er, sAsg_e, nxt_so, gNm_e, KR_ok, KR_er, sRet_e, KD_ok, KD_er, sDrop_e, KP_ok, sPar_e, KF_ok, KF_er, sFor_e, KOw_ok, KOw_er, sOwn_e, KnL_ok, KnL_er, nLst_e, lsO_so, lstAt_e, KoIo_so, KoI_ok, oIx_e, KoL_so, oLen_e, KoAo_so, KoA_ok, KoA_er, oApp_e, KoEo_so, KoE_ok, oExt_e, KsIo2_so, KsIo_so, KsI2_ok, KsI_ok, KsI_er, sSetI_e, KC2_ok, KC2_er, KC_ok, KC_er, fCall_e, KI2_ok, KIo_so, KI_ok, fCallIo_e, KnC2_ok, KnC_ok, KnC_er, nCall_e, KsQ_t, KsQ_l, KsQ_f, iSeq_e, KsE_t, KsE_l, iEn_e, KR1_ok, iRn1_e, KL_ok, KL_er, lstE_e, Kc1_ok, Kc1_er, compN_e, Kc2_ok, Kc2_er, compN2_e, fitL_so, KoP_ok, oPt_e, oNo_e, Ksl3_ok, Ksl3_er, Ksl2_ok, Ksl2_er, Ksl1_ok, Ksl1_er, fSl_e, KTy_ok, KTy_er, sTry_e, KB_rt, KB_nx, KB_er, runB_e, outs_nil, outs_0, gsNil_e, gsCons_e, gTp_t, d_slope_term, F_slope_of_two, d_slope_of_two, q_x_x, q_x_whole, q_x_negative, q_x_log, q_x_exp, q_x_plus, q_x_minus, q_x_times, q_x_over, q_x_power, iw_x, ip_x, q_whole_x, q_whole_whole, q_whole_negative, q_whole_log, q_whole_exp, q_whole_plus, q_whole_minus, q_whole_times, q_whole_over, q_whole_power, iw_whole, ip_whole, q_negative_x, q_negative_whole, q_negative_negative, q_negative_log, q_negative_exp, q_negative_plus, q_negative_minus, q_negative_times, q_negative_over, q_negative_power, iw_negative, ip_negative, q_log_x, q_log_whole, q_log_negative, q_log_log, q_log_exp, q_log_plus, q_log_minus, q_log_times, q_log_over, q_log_power, iw_log, ip_log, q_exp_x, q_exp_whole, q_exp_negative, q_exp_log, q_exp_exp, q_exp_plus, q_exp_minus, q_exp_times, q_exp_over, q_exp_power, iw_exp, ip_exp, q_plus_x, q_plus_whole, q_plus_negative, q_plus_log, q_plus_exp, q_plus_plus, q_plus_minus, q_plus_times, q_plus_over, q_plus_power, iw_plus, ip_plus, q_minus_x, q_minus_whole, q_minus_negative, q_minus_log, q_minus_exp, q_minus_plus, q_minus_minus, q_minus_times, q_minus_over, q_minus_power, iw_minus, ip_minus, q_times_x, q_times_whole, q_times_negative, q_times_log, q_times_exp, q_times_plus, q_times_minus, q_times_times, q_times_over, q_times_power, iw_times, ip_times, q_over_x, q_over_whole, q_over_negative, q_over_log, q_over_exp, q_over_plus, q_over_minus, q_over_times, q_over_over, q_over_power, iw_over, ip_over, q_power_x, q_power_whole, q_power_negative, q_power_log, q_power_exp, q_power_plus, q_power_minus, q_power_times, q_power_over, q_power_power, iw_power, ip_power, gt_2, gt_3, gIx, L2.atI, L2.ixN, r, r2]
  · intro a b e w
    have r := hR a (by rw [w]; exact List.mem_cons_self ..)
    have r2 := hR b (by rw [w]; exact List.mem_cons_of_mem _ (List.mem_singleton.mpr rfl))
    simp [f0_e, put_so, K1_ok, K1_er, f1_e, K2b_ok, K2b_er, K2_ok, K2_er, f2_e, KN_ok, KN_er, fN_e, aNil_e, KAb_ok, KAb_er, KA_ok, KA_er, aCons_e, fvO_so, fv_e, KT_ok, KT_er, tV_e, KNt_ok, KNt_er, tNt_e, KAn_ok, KAn_er, tAn_e, KOr_ok, KOr_er, tOr'_e, KIe_ok, KIe_er, fIf_e, tYs_e, KEa_ok, eAn_e, KEo_ok, eOr_e, KCh3_ok, KCh3_er, KCh2_ok, KChO_so, KCh1_ok, KCh1_er, fCh_e, sNx_e, sBk_e, sCt_e, sRetN_e, sRaise_e, KS_nx, KS_rt, KS_bk, KS_ct, KS_er, sSeq_e, KIf_ok, KIf_er, sIf_e, KG_ok, KG_er, sAsg_e, nxt_so, gNm_e, KR_ok, KR_er, sRet_e, KD_ok, KD_er, sDrop_e, KP_ok, sPar_e, KF_ok, KF_er, sFor_e, KOw_ok, KOw_er, sOwn_e, KnL_ok, KnL_er, nLst_e, lsO_so, lstAt_e, KoIo_so, KoI_ok, oIx_e, KoL_so, oLen_e, KoAo_so, KoA_ok, KoA_er, oApp_e, KoEo_so, KoE_ok, oExt_e, KsIo2_so, KsIo_so, KsI2_ok, KsI_ok, KsI_er, sSetI_e, KC2_ok, KC2_er, KC_ok, KC_er, fCall_e, KI2_ok, KIo_so, KI_ok, fCallIo_e, KnC2_ok, KnC_ok, KnC_er, nCall_e, KsQ_t, KsQ_l, KsQ_f, iSeq_e, KsE_t, KsE_l, iEn_e, KR1_ok, iRn1_e, KL_ok, KL_er, lstE_e, Kc1_ok, Kc1_er, compN_e, Kc2_ok, Kc2_er, compN2_e, fitL_so, KoP_ok, oPt_e, oNo_e, Ksl3_ok, Ksl3_er, Ksl2_ok, Ksl2_er, Ksl1_ok, Ksl1_er, fSl_e, KTy_ok, KTy_er, sTry_e, KB_rt, KB_nx, KB_er, runB_e, outs_nil, outs_0, gsNil_e, gsCons_e, gTp_t, d_slope_term, F_slope_of_two, d_slope_of_two, q_x_x, q_x_whole, q_x_negative, q_x_log, q_x_exp, q_x_plus, q_x_minus, q_x_times, q_x_over, q_x_power, iw_x, ip_x, q_whole_x, q_whole_whole, q_whole_negative, q_whole_log, q_whole_exp, q_whole_plus, q_whole_minus, q_whole_times, q_whole_over, q_whole_power, iw_whole, ip_whole, q_negative_x, q_negative_whole, q_negative_negative, q_negative_log, q_negative_exp, q_negative_plus, q_negative_minus, q_negative_times, q_negative_over, q_negative_power, iw_negative, ip_negative, q_log_x, q_log_whole, q_log_negative, q_log_log, q_log_exp, q_log_plus, q_log_minus, q_log_times, q_log_over, q_log_power, iw_log, ip_log, q_exp_x, q_exp_whole, q_exp_negative, q_exp_log, q_exp_exp, q_exp_plus, q_exp_minus, q_exp_times, q_exp_over, q_exp_power, iw_exp, ip_exp, q_plus_x, q_plus_whole, q_plus_negative, q_plus_log, q_plus_exp, q_plus_plus, q_plus_minus, q_plus_times, q_plus_over, q_plus_power, iw_plus, ip_plus, q_minus_x, q_minus_whole, q_minus_negative, q_minus_log, q_minus_exp, q_minus_plus, q_minus_minus, q_minus_times, q_minus_over, q_minus_power, iw_minus, ip_minus, q_times_x, q_times_whole, q_times_negative, q_times_log, q_times_exp, q_times_plus, q_times_minus, q_times_times, q_times_over, q_times_power, iw_times, ip_times, q_over_x, q_over_whole, q_over_negative, q_over_log, q_over_exp, q_over_plus, q_over_minus, q_over_times, q_over_over, q_over_power, iw_over, ip_over, q_power_x, q_power_whole, q_power_negative, q_power_log, q_power_exp, q_power_plus, q_power_minus, q_power_times, q_power_over, q_power_power, iw_power, ip_power, gt_2, gt_3, gIx, L2.atI, L2.ixN, r, r2]
  · intro a b e w
    have r := hR a (by rw [w]; exact List.mem_cons_self ..)
    have r2 := hR b (by rw [w]; exact List.mem_cons_of_mem _ (List.mem_singleton.mpr rfl))
    simp [f0_e, put_so, K1_ok, K1_er, f1_e, K2b_ok, K2b_er, K2_ok, K2_er, f2_e, KN_ok, KN_er, fN_e, aNil_e, KAb_ok, KAb_er, KA_ok, KA_er, aCons_e, fvO_so, fv_e, KT_ok, KT_er, tV_e, KNt_ok, KNt_er, tNt_e, KAn_ok, KAn_er, tAn_e, KOr_ok, KOr_er, tOr'_e, KIe_ok, KIe_er, fIf_e, tYs_e, KEa_ok, eAn_e, KEo_ok, eOr_e, KCh3_ok, KCh3_er, KCh2_ok, KChO_so, KCh1_ok, KCh1_er, fCh_e, sNx_e, sBk_e, sCt_e, sRetN_e, sRaise_e, KS_nx, KS_rt, KS_bk, KS_ct, KS_er, sSeq_e, KIf_ok, KIf_er, sIf_e, KG_ok, KG_er, sAsg_e, nxt_so, gNm_e, KR_ok, KR_er, sRet_e, KD_ok, KD_er, sDrop_e, KP_ok, sPar_e, KF_ok, KF_er, sFor_e, KOw_ok, KOw_er, sOwn_e, KnL_ok, KnL_er, nLst_e, lsO_so, lstAt_e, KoIo_so, KoI_ok, oIx_e, KoL_so, oLen_e, KoAo_so, KoA_ok, KoA_er, oApp_e, KoEo_so, KoE_ok, oExt_e, KsIo2_so, KsIo_so, KsI2_ok, KsI_ok, KsI_er, sSetI_e, KC2_ok, KC2_er, KC_ok, KC_er, fCall_e, KI2_ok, KIo_so, KI_ok, fCallIo_e, KnC2_ok, KnC_ok, KnC_er, nCall_e, KsQ_t, KsQ_l, KsQ_f, iSeq_e, KsE_t, KsE_l, iEn_e, KR1_ok, iRn1_e, KL_ok, KL_er, lstE_e, Kc1_ok, Kc1_er, compN_e, Kc2_ok, Kc2_er, compN2_e, fitL_so, KoP_ok, oPt_e, oNo_e, Ksl3_ok, Ksl3_er, Ksl2_ok, Ksl2_er, Ksl1_ok, Ksl1_er, fSl_e, KTy_ok, KTy_er, sTry_e, KB_rt, KB_nx, KB_er, runB_e, outs_nil, outs_0, gsNil_e, gsCons_e, gTp_t, d_slope_term, F_slope_of_two, d_slope_of_two, q_x_x, q_x_whole, q_x_negative, q_x_log, q_x_exp, q_x_plus, q_x_minus, q_x_times, q_x_over, q_x_power, iw_x, ip_x, q_whole_x, q_whole_whole, q_whole_negative, q_whole_log, q_whole_exp, q_whole_plus, q_whole_minus, q_whole_times, q_whole_over, q_whole_power, iw_whole, ip_whole, q_negative_x, q_negative_whole, q_negative_negative, q_negative_log, q_negative_exp, q_negative_plus, q_negative_minus, q_negative_times, q_negative_over, q_negative_power, iw_negative, ip_negative, q_log_x, q_log_whole, q_log_negative, q_log_log, q_log_exp, q_log_plus, q_log_minus, q_log_times, q_log_over, q_log_power, iw_log, ip_log, q_exp_x, q_exp_whole, q_exp_negative, q_exp_log, q_exp_exp, q_exp_plus, q_exp_minus, q_exp_times, q_exp_over, q_exp_power, iw_exp, ip_exp, q_plus_x, q_plus_whole, q_plus_negative, q_plus_log, q_plus_exp, q_plus_plus, q_plus_minus, q_plus_times, q_plus_over, q_plus_power, iw_plus, ip_plus, q_minus_x, q_minus_whole, q_minus_negative, q_minus_log, q_minus_exp, q_minus_plus, q_minus_minus, q_minus_times, q_minus_over, q_minus_power, iw_minus, ip_minus, q_times_x, q_times_whole, q_times_negative, q_times_log, q_times_exp, q_times_plus, q_times_minus, q_times_times, q_times_over, q_times_power, iw_times, ip_times, q_over_x, q_over_whole, q_over_negative, q_over_log, q_over_exp, q_over_plus, q_over_minus, q_over_times, q_over_over, q_over_power, iw_over, ip_over, q_power_x, q_power_whole, q_power_negative, q_power_log, q_power_exp, q_power_plus, q_power_minus, q_power_times, q_power_over, q_power_power, iw_power, ip_power, gt_2, gt_3, gIx, L2.atI, L2.ixN, r, r2]
  · intro a b e w
    have r := hR a (by rw [w]; exact List.mem_cons_self ..)
    have r2 := hR b (by rw [w]; exact List.mem_cons_of_mem _ (List.mem_singleton.mpr rfl))
    simp [f0_e, put_so, K1_ok, K1_er, f1_e, K2b_ok, K2b_er, K2_ok, K2_er, f2_e, KN_ok, KN_er, fN_e, aNil_e, KAb_ok, KAb_er, KA_ok, KA_er, aCons_e, fvO_so, fv_e, KT_ok, KT_er, tV_e, KNt_ok, KNt_er, tNt_e, KAn_ok, KAn_er, tAn_e, KOr_ok, KOr_er, tOr'_e, KIe_ok, KIe_er, fIf_e, tYs_e, KEa_ok, eAn_e, KEo_ok, eOr_e, KCh3_ok, KCh3_er, KCh2_ok, KChO_so, KCh1_ok, KCh1_er, fCh_e, sNx_e, sBk_e, sCt_e, sRetN_e, sRaise_e, KS_nx, KS_rt, KS_bk, KS_ct, KS_er, sSeq_e, KIf_ok, KIf_er, sIf_e, KG_ok, KG_er, sAsg_e, nxt_so, gNm_e, KR_ok, KR_er, sRet_e, KD_ok, KD_er, sDrop_e, KP_ok, sPar_e, KF_ok, KF_er, sFor_e, KOw_ok, KOw_er, sOwn_e, KnL_ok, KnL_er, nLst_e, lsO_so, lstAt_e, KoIo_so, KoI_ok, oIx_e, KoL_so, oLen_e, KoAo_so, KoA_ok, KoA_er, oApp_e, KoEo_so, KoE_ok, oExt_e, KsIo2_so, KsIo_so, KsI2_ok, KsI_ok, KsI_er, sSetI_e, KC2_ok, KC2_er, KC_ok, KC_er, fCall_e, KI2_ok, KIo_so, KI_ok, fCallIo_e, KnC2_ok, KnC_ok, KnC_er, nCall_e, KsQ_t, KsQ_l, KsQ_f, iSeq_e, KsE_t, KsE_l, iEn_e, KR1_ok, iRn1_e, KL_ok, KL_er, lstE_e, Kc1_ok, Kc1_er, compN_e, Kc2_ok, Kc2_er, compN2_e, fitL_so, KoP_ok, oPt_e, oNo_e, Ksl3_ok, Ksl3_er, Ksl2_ok, Ksl2_er, Ksl1_ok, Ksl1_er, fSl_e, KTy_ok, KTy_er, sTry_e, KB_rt, KB_nx, KB_er, runB_e, outs_nil, outs_0, gsNil_e, gsCons_e, gTp_t, d_slope_term, F_slope_of_two, d_slope_of_two, q_x_x, q_x_whole, q_x_negative, q_x_log, q_x_exp, q_x_plus, q_x_minus, q_x_times, q_x_over, q_x_power, iw_x, ip_x, q_whole_x, q_whole_whole, q_whole_negative, q_whole_log, q_whole_exp, q_whole_plus, q_whole_minus, q_whole_times, q_whole_over, q_whole_power, iw_whole, ip_whole, q_negative_x, q_negative_whole, q_negative_negative, q_negative_log, q_negative_exp, q_negative_plus, q_negative_minus, q_negative_times, q_negative_over, q_negative_power, iw_negative, ip_negative, q_log_x, q_log_whole, q_log_negative, q_log_log, q_log_exp, q_log_plus, q_log_minus, q_log_times, q_log_over, q_log_power, iw_log, ip_log, q_exp_x, q_exp_whole, q_exp_negative, q_exp_log, q_exp_exp, q_exp_plus, q_exp_minus, q_exp_times, q_exp_over, q_exp_power, iw_exp, ip_exp, q_plus_x, q_plus_whole, q_plus_negative, q_plus_log, q_plus_exp, q_plus_plus, q_plus_minus, q_plus_times, q_plus_over, q_plus_power, iw_plus, ip_plus, q_minus_x, q_minus_whole, q_minus_negative, q_minus_log, q_minus_exp, q_minus_plus, q_minus_minus, q_minus_times, q_minus_over, q_minus_power, iw_minus, ip_minus, q_times_x, q_times_whole, q_times_negative, q_times_log, q_times_exp, q_times_plus, q_times_minus, q_times_times, q_times_over, q_times_power, iw_times, ip_times, q_over_x, q_over_whole, q_over_negative, q_over_log, q_over_exp, q_over_plus, q_over_minus, q_over_times, q_over_over, q_over_power, iw_over, ip_over, q_power_x, q_power_whole, q_power_negative, q_power_log, q_power_exp, q_power_plus, q_power_minus, q_power_times, q_power_over, q_power_power, iw_power, ip_power, gt_2, gt_3, gIx, L2.atI, L2.ixN, r, r2]
theorem slope_ok : ∀ (n m : Nat) (d : D), WF n d → n ≤ m → F_slope_term m [d] = .ok (slp n d, [])
  | 0, _, _, h, _ => h.elim
  | n + 1, 0, _, _, l => by omega
  | n + 1, m + 1, d, h, l => slope_step h fun p q => slope_ok n m p (h.2.2 p q) (by omega)
theorem lslope_step {n : Nat} {d : D} {R : FD} (h : WF (n + 1) d) (hR : ∀ p ∈ within d, R [p] = .ok (slp n p, [])) : runB 6 [] (d__law_term_slope R) [d] = .ok (slp (n + 1) d, []) := by
  refine slp_cases (P := fun d r => runB 6 [] (d__law_term_slope R) [d] = .ok (r, [])) h ?_ ?_ ?_ ?_ ?_ ?_ ?_ ?_ ?_ ?_ ?_
  · kernel_rfl
  · intro i
    simp [f0_e, put_so, K1_ok, K1_er, f1_e, K2b_ok, K2b_er, K2_ok, K2_er, f2_e, KN_ok, KN_er, fN_e, aNil_e, KAb_ok, KAb_er, KA_ok, KA_er, aCons_e, fvO_so, fv_e, KT_ok, KT_er, tV_e, KNt_ok, KNt_er, tNt_e, KAn_ok, KAn_er, tAn_e, KOr_ok, KOr_er, tOr'_e, KIe_ok, KIe_er, fIf_e, tYs_e, KEa_ok, eAn_e, KEo_ok, eOr_e, KCh3_ok, KCh3_er, KCh2_ok, KChO_so, KCh1_ok, KCh1_er, fCh_e, sNx_e, sBk_e, sCt_e, sRetN_e, sRaise_e, KS_nx, KS_rt, KS_bk, KS_ct, KS_er, sSeq_e, KIf_ok, KIf_er, sIf_e, KG_ok, KG_er, sAsg_e, nxt_so, gNm_e, KR_ok, KR_er, sRet_e, KD_ok, KD_er, sDrop_e, KP_ok, sPar_e, KF_ok, KF_er, sFor_e, KOw_ok, KOw_er, sOwn_e, KnL_ok, KnL_er, nLst_e, lsO_so, lstAt_e, KoIo_so, KoI_ok, oIx_e, KoL_so, oLen_e, KoAo_so, KoA_ok, KoA_er, oApp_e, KoEo_so, KoE_ok, oExt_e, KsIo2_so, KsIo_so, KsI2_ok, KsI_ok, KsI_er, sSetI_e, KC2_ok, KC2_er, KC_ok, KC_er, fCall_e, KI2_ok, KIo_so, KI_ok, fCallIo_e, KnC2_ok, KnC_ok, KnC_er, nCall_e, KsQ_t, KsQ_l, KsQ_f, iSeq_e, KsE_t, KsE_l, iEn_e, KR1_ok, iRn1_e, KL_ok, KL_er, lstE_e, Kc1_ok, Kc1_er, compN_e, Kc2_ok, Kc2_er, compN2_e, fitL_so, KoP_ok, oPt_e, oNo_e, Ksl3_ok, Ksl3_er, Ksl2_ok, Ksl2_er, Ksl1_ok, Ksl1_er, fSl_e, KTy_ok, KTy_er, sTry_e, KB_rt, KB_nx, KB_er, runB_e, outs_nil, outs_0, gsNil_e, gsCons_e, gTp_t, d__law_term_slope, q_x_x, q_x_whole, q_x_negative, q_x_log, q_x_exp, q_x_plus, q_x_minus, q_x_times, q_x_over, q_x_power, iw_x, ip_x, q_whole_x, q_whole_whole, q_whole_negative, q_whole_log, q_whole_exp, q_whole_plus, q_whole_minus, q_whole_times, q_whole_over, q_whole_power, iw_whole, ip_whole, q_negative_x, q_negative_whole, q_negative_negative, q_negative_log, q_negative_exp, q_negative_plus, q_negative_minus, q_negative_times, q_negative_over, q_negative_power, iw_negative, ip_negative, q_log_x, q_log_whole, q_log_negative, q_log_log, q_log_exp, q_log_plus, q_log_minus, q_log_times, q_log_over, q_log_power, iw_log, ip_log, q_exp_x, q_exp_whole, q_exp_negative, q_exp_log, q_exp_exp, q_exp_plus, q_exp_minus, q_exp_times, q_exp_over, q_exp_power, iw_exp, ip_exp, q_plus_x, q_plus_whole, q_plus_negative, q_plus_log, q_plus_exp, q_plus_plus, q_plus_minus, q_plus_times, q_plus_over, q_plus_power, iw_plus, ip_plus, q_minus_x, q_minus_whole, q_minus_negative, q_minus_log, q_minus_exp, q_minus_plus, q_minus_minus, q_minus_times, q_minus_over, q_minus_power, iw_minus, ip_minus, q_times_x, q_times_whole, q_times_negative, q_times_log, q_times_exp, q_times_plus, q_times_minus, q_times_times, q_times_over, q_times_power, iw_times, ip_times, q_over_x, q_over_whole, q_over_negative, q_over_log, q_over_exp, q_over_plus, q_over_minus, q_over_times, q_over_over, q_over_power, iw_over, ip_over, q_power_x, q_power_whole, q_power_negative, q_power_log, q_power_exp, q_power_plus, q_power_minus, q_power_times, q_power_over, q_power_power, iw_power, ip_power, gt_2, gIx, L2.atI, L2.ixN]
  · intro a e w
    have r := hR a (by rw [w]; exact List.mem_singleton.mpr rfl)
    simp [f0_e, put_so, K1_ok, K1_er, f1_e, K2b_ok, K2b_er, K2_ok, K2_er, f2_e, KN_ok, KN_er, fN_e, aNil_e, KAb_ok, KAb_er, KA_ok, KA_er, aCons_e, fvO_so, fv_e, KT_ok, KT_er, tV_e, KNt_ok, KNt_er, tNt_e, KAn_ok, KAn_er, tAn_e, KOr_ok, KOr_er, tOr'_e, KIe_ok, KIe_er, fIf_e, tYs_e, KEa_ok, eAn_e, KEo_ok, eOr_e, KCh3_ok, KCh3_er, KCh2_ok, KChO_so, KCh1_ok, KCh1_er, fCh_e, sNx_e, sBk_e, sCt_e, sRetN_e, sRaise_e, KS_nx, KS_rt, KS_bk, KS_ct, KS_er, sSeq_e, KIf_ok, KIf_er, sIf_e, KG_ok, KG_er, sAsg_e, nxt_so, gNm_e, KR_ok, KR_er, sRet_e, KD_ok, KD_er, sDrop_e, KP_ok, sPar_e, KF_ok, KF_er, sFor_e, KOw_ok, KOw_er, sOwn_e, KnL_ok, KnL_er, nLst_e, lsO_so, lstAt_e, KoIo_so, KoI_ok, oIx_e, KoL_so, oLen_e, KoAo_so, KoA_ok, KoA_er, oApp_e, KoEo_so, KoE_ok, oExt_e, KsIo2_so, KsIo_so, KsI2_ok, KsI_ok, KsI_er, sSetI_e, KC2_ok, KC2_er, KC_ok, KC_er, fCall_e, KI2_ok, KIo_so, KI_ok, fCallIo_e, KnC2_ok, KnC_ok, KnC_er, nCall_e, KsQ_t, KsQ_l, KsQ_f, iSeq_e, KsE_t, KsE_l, iEn_e, KR1_ok, iRn1_e, KL_ok, KL_er, lstE_e, Kc1_ok, Kc1_er, compN_e, Kc2_ok, Kc2_er, compN2_e, fitL_so, KoP_ok, oPt_e, oNo_e, Ksl3_ok, Ksl3_er, Ksl2_ok, Ksl2_er, Ksl1_ok, Ksl1_er, fSl_e, KTy_ok, KTy_er, sTry_e, KB_rt, KB_nx, KB_er, runB_e, outs_nil, outs_0, gsNil_e, gsCons_e, gTp_t, d__law_term_slope, q_x_x, q_x_whole, q_x_negative, q_x_log, q_x_exp, q_x_plus, q_x_minus, q_x_times, q_x_over, q_x_power, iw_x, ip_x, q_whole_x, q_whole_whole, q_whole_negative, q_whole_log, q_whole_exp, q_whole_plus, q_whole_minus, q_whole_times, q_whole_over, q_whole_power, iw_whole, ip_whole, q_negative_x, q_negative_whole, q_negative_negative, q_negative_log, q_negative_exp, q_negative_plus, q_negative_minus, q_negative_times, q_negative_over, q_negative_power, iw_negative, ip_negative, q_log_x, q_log_whole, q_log_negative, q_log_log, q_log_exp, q_log_plus, q_log_minus, q_log_times, q_log_over, q_log_power, iw_log, ip_log, q_exp_x, q_exp_whole, q_exp_negative, q_exp_log, q_exp_exp, q_exp_plus, q_exp_minus, q_exp_times, q_exp_over, q_exp_power, iw_exp, ip_exp, q_plus_x, q_plus_whole, q_plus_negative, q_plus_log, q_plus_exp, q_plus_plus, q_plus_minus, q_plus_times, q_plus_over, q_plus_power, iw_plus, ip_plus, q_minus_x, q_minus_whole, q_minus_negative, q_minus_log, q_minus_exp, q_minus_plus, q_minus_minus, q_minus_times, q_minus_over, q_minus_power, iw_minus, ip_minus, q_times_x, q_times_whole, q_times_negative, q_times_log, q_times_exp, q_times_plus, q_times_minus, q_times_times, q_times_over, q_times_power, iw_times, ip_times, q_over_x, q_over_whole, q_over_negative, q_over_log, q_over_exp, q_over_plus, q_over_minus, q_over_times, q_over_over, q_over_power, iw_over, ip_over, q_power_x, q_power_whole, q_power_negative, q_power_log, q_power_exp, q_power_plus, q_power_minus, q_power_times, q_power_over, q_power_power, iw_power, ip_power, gt_2, gt_3, gIx, L2.atI, L2.ixN, r]
  · intro a e w
    have r := hR a (by rw [w]; exact List.mem_singleton.mpr rfl)
    simp [f0_e, put_so, K1_ok, K1_er, f1_e, K2b_ok, K2b_er, K2_ok, K2_er, f2_e, KN_ok, KN_er, fN_e, aNil_e, KAb_ok, KAb_er, KA_ok, KA_er, aCons_e, fvO_so, fv_e, KT_ok, KT_er, tV_e, KNt_ok, KNt_er, tNt_e, KAn_ok, KAn_er, tAn_e, KOr_ok, KOr_er, tOr'_e, KIe_ok, KIe_er, fIf_e, tYs_e, KEa_ok, eAn_e, KEo_ok, eOr_e, KCh3_ok, KCh3_er, KCh2_ok, KChO_so, KCh1_ok, KCh1_er, fCh_e, sNx_e, sBk_e, sCt_e, sRetN_e, sRaise_e, KS_nx, KS_rt, KS_bk, KS_ct, KS_er, sSeq_e, KIf_ok, KIf_er, sIf_e, KG_ok, KG_er, sAsg_e, nxt_so, gNm_e, KR_ok, KR_er, sRet_e, KD_ok, KD_er, sDrop_e, KP_ok, sPar_e, KF_ok, KF_er, sFor_e, KOw_ok, KOw_er, sOwn_e, KnL_ok, KnL_er, nLst_e, lsO_so, lstAt_e, KoIo_so, KoI_ok, oIx_e, KoL_so, oLen_e, KoAo_so, KoA_ok, KoA_er, oApp_e, KoEo_so, KoE_ok, oExt_e, KsIo2_so, KsIo_so, KsI2_ok, KsI_ok, KsI_er, sSetI_e, KC2_ok, KC2_er, KC_ok, KC_er, fCall_e, KI2_ok, KIo_so, KI_ok, fCallIo_e, KnC2_ok, KnC_ok, KnC_er, nCall_e, KsQ_t, KsQ_l, KsQ_f, iSeq_e, KsE_t, KsE_l, iEn_e, KR1_ok, iRn1_e, KL_ok, KL_er, lstE_e, Kc1_ok, Kc1_er, compN_e, Kc2_ok, Kc2_er, compN2_e, fitL_so, KoP_ok, oPt_e, oNo_e, Ksl3_ok, Ksl3_er, Ksl2_ok, Ksl2_er, Ksl1_ok, Ksl1_er, fSl_e, KTy_ok, KTy_er, sTry_e, KB_rt, KB_nx, KB_er, runB_e, outs_nil, outs_0, gsNil_e, gsCons_e, gTp_t, d__law_term_slope, q_x_x, q_x_whole, q_x_negative, q_x_log, q_x_exp, q_x_plus, q_x_minus, q_x_times, q_x_over, q_x_power, iw_x, ip_x, q_whole_x, q_whole_whole, q_whole_negative, q_whole_log, q_whole_exp, q_whole_plus, q_whole_minus, q_whole_times, q_whole_over, q_whole_power, iw_whole, ip_whole, q_negative_x, q_negative_whole, q_negative_negative, q_negative_log, q_negative_exp, q_negative_plus, q_negative_minus, q_negative_times, q_negative_over, q_negative_power, iw_negative, ip_negative, q_log_x, q_log_whole, q_log_negative, q_log_log, q_log_exp, q_log_plus, q_log_minus, q_log_times, q_log_over, q_log_power, iw_log, ip_log, q_exp_x, q_exp_whole, q_exp_negative, q_exp_log, q_exp_exp, q_exp_plus, q_exp_minus, q_exp_times, q_exp_over, q_exp_power, iw_exp, ip_exp, q_plus_x, q_plus_whole, q_plus_negative, q_plus_log, q_plus_exp, q_plus_plus, q_plus_minus, q_plus_times, q_plus_over, q_plus_power, iw_plus, ip_plus, q_minus_x, q_minus_whole, q_minus_negative, q_minus_log, q_minus_exp, q_minus_plus, q_minus_minus, q_minus_times, q_minus_over, q_minus_power, iw_minus, ip_minus, q_times_x, q_times_whole, q_times_negative, q_times_log, q_times_exp, q_times_plus, q_times_minus, q_times_times, q_times_over, q_times_power, iw_times, ip_times, q_over_x, q_over_whole, q_over_negative, q_over_log, q_over_exp, q_over_plus, q_over_minus, q_over_times, q_over_over, q_over_power, iw_over, ip_over, q_power_x, q_power_whole, q_power_negative, q_power_log, q_power_exp, q_power_plus, q_power_minus, q_power_times, q_power_over, q_power_power, iw_power, ip_power, gt_2, gt_3, gIx, L2.atI, L2.ixN, r]
  · intro a e w
    have r := hR a (by rw [w]; exact List.mem_singleton.mpr rfl)
    simp [f0_e, put_so, K1_ok, K1_er, f1_e, K2b_ok, K2b_er, K2_ok, K2_er, f2_e, KN_ok, KN_er, fN_e, aNil_e, KAb_ok, KAb_er, KA_ok, KA_er, aCons_e, fvO_so, fv_e, KT_ok, KT_er, tV_e, KNt_ok, KNt_er, tNt_e, KAn_ok, KAn_er, tAn_e, KOr_ok, KOr_er, tOr'_e, KIe_ok, KIe_er, fIf_e, tYs_e, KEa_ok, eAn_e, KEo_ok, eOr_e, KCh3_ok, KCh3_er, KCh2_ok, KChO_so, KCh1_ok, KCh1_er, fCh_e, sNx_e, sBk_e, sCt_e, sRetN_e, sRaise_e, KS_nx, KS_rt, KS_bk, KS_ct, KS_er, sSeq_e, KIf_ok, KIf_er, sIf_e, KG_ok, KG_er, sAsg_e, nxt_so, gNm_e, KR_ok, KR_er, sRet_e, KD_ok, KD_er, sDrop_e, KP_ok, sPar_e, KF_ok, KF_er, sFor_e, KOw_ok, KOw_er, sOwn_e, KnL_ok, KnL_er, nLst_e, lsO_so, lstAt_e, KoIo_so, KoI_ok, oIx_e, KoL_so, oLen_e, KoAo_so, KoA_ok, KoA_er, oApp_e, KoEo_so, KoE_ok, oExt_e, KsIo2_so, KsIo_so, KsI2_ok, KsI_ok, KsI_er, sSetI_e, KC2_ok, KC2_er, KC_ok, KC_er, fCall_e, KI2_ok, KIo_so, KI_ok, fCallIo_e, KnC2_ok, KnC_ok, KnC_er, nCall_e, KsQ_t, KsQ_l, KsQ_f, iSeq_e, KsE_t, KsE_l, iEn_e, KR1_ok, iRn1_e, KL_ok, KL_er, lstE_e, Kc1_ok, Kc1_er, compN_e, Kc2_ok, Kc2_er, compN2_e, fitL_so, KoP_ok, oPt_e, oNo_e, Ksl3_ok, Ksl3_er, Ksl2_ok, Ksl2_er, Ksl1_ok, Ksl1_er, fSl_e, KTy_ok, KTy_er, sTry_e, KB_rt, KB_nx, KB_er, runB_e, outs_nil, outs_0, gsNil_e, gsCons_e, gTp_t, d__law_term_slope, q_x_x, q_x_whole, q_x_negative, q_x_log, q_x_exp, q_x_plus, q_x_minus, q_x_times, q_x_over, q_x_power, iw_x, ip_x, q_whole_x, q_whole_whole, q_whole_negative, q_whole_log, q_whole_exp, q_whole_plus, q_whole_minus, q_whole_times, q_whole_over, q_whole_power, iw_whole, ip_whole, q_negative_x, q_negative_whole, q_negative_negative, q_negative_log, q_negative_exp, q_negative_plus, q_negative_minus, q_negative_times, q_negative_over, q_negative_power, iw_negative, ip_negative, q_log_x, q_log_whole, q_log_negative, q_log_log, q_log_exp, q_log_plus, q_log_minus, q_log_times, q_log_over, q_log_power, iw_log, ip_log, q_exp_x, q_exp_whole, q_exp_negative, q_exp_log, q_exp_exp, q_exp_plus, q_exp_minus, q_exp_times, q_exp_over, q_exp_power, iw_exp, ip_exp, q_plus_x, q_plus_whole, q_plus_negative, q_plus_log, q_plus_exp, q_plus_plus, q_plus_minus, q_plus_times, q_plus_over, q_plus_power, iw_plus, ip_plus, q_minus_x, q_minus_whole, q_minus_negative, q_minus_log, q_minus_exp, q_minus_plus, q_minus_minus, q_minus_times, q_minus_over, q_minus_power, iw_minus, ip_minus, q_times_x, q_times_whole, q_times_negative, q_times_log, q_times_exp, q_times_plus, q_times_minus, q_times_times, q_times_over, q_times_power, iw_times, ip_times, q_over_x, q_over_whole, q_over_negative, q_over_log, q_over_exp, q_over_plus, q_over_minus, q_over_times, q_over_over, q_over_power, iw_over, ip_over, q_power_x, q_power_whole, q_power_negative, q_power_log, q_power_exp, q_power_plus, q_power_minus, q_power_times, q_power_over, q_power_power, iw_power, ip_power, gt_2, gt_3, gIx, L2.atI, L2.ixN, r]
  · intro a e w
    have r := hR a (by rw [w]; exact List.mem_singleton.mpr rfl)
    simp [f0_e, put_so, K1_ok, K1_er, f1_e, K2b_ok, K2b_er, K2_ok, K2_er, f2_e, KN_ok, KN_er, fN_e, aNil_e, KAb_ok, KAb_er, KA_ok, KA_er, aCons_e, fvO_so, fv_e, KT_ok, KT_er, tV_e, KNt_ok, KNt_er, tNt_e, KAn_ok, KAn_er, tAn_e, KOr_ok, KOr_er, tOr'_e, KIe_ok, KIe_er, fIf_e, tYs_e, KEa_ok, eAn_e, KEo_ok, eOr_e, KCh3_ok, KCh3_er, KCh2_ok, KChO_so, KCh1_ok, KCh1_er, fCh_e, sNx_e, sBk_e, sCt_e, sRetN_e, sRaise_e, KS_nx, KS_rt, KS_bk, KS_ct, KS_er, sSeq_e, KIf_ok, KIf_er, sIf_e, KG_ok, KG_er, sAsg_e, nxt_so, gNm_e, KR_ok, KR_er, sRet_e, KD_ok, KD_er, sDrop_e, KP_ok, sPar_e, KF_ok, KF_er, sFor_e, KOw_ok, KOw_er, sOwn_e, KnL_ok, KnL_er, nLst_e, lsO_so, lstAt_e, KoIo_so, KoI_ok, oIx_e, KoL_so, oLen_e, KoAo_so, KoA_ok, KoA_er, oApp_e, KoEo_so, KoE_ok, oExt_e, KsIo2_so, KsIo_so, KsI2_ok, KsI_ok, KsI_er, sSetI_e, KC2_ok, KC2_er, KC_ok, KC_er, fCall_e, KI2_ok, KIo_so, KI_ok, fCallIo_e, KnC2_ok, KnC_ok, KnC_er, nCall_e, KsQ_t, KsQ_l, KsQ_f, iSeq_e, KsE_t, KsE_l, iEn_e, KR1_ok, iRn1_e, KL_ok, KL_er, lstE_e, Kc1_ok, Kc1_er, compN_e, Kc2_ok, Kc2_er, compN2_e, fitL_so, KoP_ok, oPt_e, oNo_e, Ksl3_ok, Ksl3_er, Ksl2_ok, Ksl2_er, Ksl1_ok, Ksl1_er, fSl_e, KTy_ok, KTy_er, sTry_e, KB_rt, KB_nx, KB_er, runB_e, outs_nil, outs_0, gsNil_e, gsCons_e, gTp_t, d__law_term_slope, q_x_x, q_x_whole, q_x_negative, q_x_log, q_x_exp, q_x_plus, q_x_minus, q_x_times, q_x_over, q_x_power, iw_x, ip_x, q_whole_x, q_whole_whole, q_whole_negative, q_whole_log, q_whole_exp, q_whole_plus, q_whole_minus, q_whole_times, q_whole_over, q_whole_power, iw_whole, ip_whole, q_negative_x, q_negative_whole, q_negative_negative, q_negative_log, q_negative_exp, q_negative_plus, q_negative_minus, q_negative_times, q_negative_over, q_negative_power, iw_negative, ip_negative, q_log_x, q_log_whole, q_log_negative, q_log_log, q_log_exp, q_log_plus, q_log_minus, q_log_times, q_log_over, q_log_power, iw_log, ip_log, q_exp_x, q_exp_whole, q_exp_negative, q_exp_log, q_exp_exp, q_exp_plus, q_exp_minus, q_exp_times, q_exp_over, q_exp_power, iw_exp, ip_exp, q_plus_x, q_plus_whole, q_plus_negative, q_plus_log, q_plus_exp, q_plus_plus, q_plus_minus, q_plus_times, q_plus_over, q_plus_power, iw_plus, ip_plus, q_minus_x, q_minus_whole, q_minus_negative, q_minus_log, q_minus_exp, q_minus_plus, q_minus_minus, q_minus_times, q_minus_over, q_minus_power, iw_minus, ip_minus, q_times_x, q_times_whole, q_times_negative, q_times_log, q_times_exp, q_times_plus, q_times_minus, q_times_times, q_times_over, q_times_power, iw_times, ip_times, q_over_x, q_over_whole, q_over_negative, q_over_log, q_over_exp, q_over_plus, q_over_minus, q_over_times, q_over_over, q_over_power, iw_over, ip_over, q_power_x, q_power_whole, q_power_negative, q_power_log, q_power_exp, q_power_plus, q_power_minus, q_power_times, q_power_over, q_power_power, iw_power, ip_power, gt_2, gt_3, gIx, L2.atI, L2.ixN, r, eq_00]
  · intro a i e w i0 i1
    have r := hR a (by rw [w]; exact List.mem_singleton.mpr rfl)
    have z := eq_i0 (i := i) (by omega)
    simp [f0_e, put_so, K1_ok, K1_er, f1_e, K2b_ok, K2b_er, K2_ok, K2_er, f2_e, KN_ok, KN_er, fN_e, aNil_e, KAb_ok, KAb_er, KA_ok, KA_er, aCons_e, fvO_so, fv_e, KT_ok, KT_er, tV_e, KNt_ok, KNt_er, tNt_e, KAn_ok, KAn_er, tAn_e, KOr_ok, KOr_er, tOr'_e, KIe_ok, KIe_er, fIf_e, tYs_e, KEa_ok, eAn_e, KEo_ok, eOr_e, KCh3_ok, KCh3_er, KCh2_ok, KChO_so, KCh1_ok, KCh1_er, fCh_e, sNx_e, sBk_e, sCt_e, sRetN_e, sRaise_e, KS_nx, KS_rt, KS_bk, KS_ct, KS_er, sSeq_e, KIf_ok, KIf_er, sIf_e, KG_ok, KG_er, sAsg_e, nxt_so, gNm_e, KR_ok, KR_er, sRet_e, KD_ok, KD_er, sDrop_e, KP_ok, sPar_e, KF_ok, KF_er, sFor_e, KOw_ok, KOw_er, sOwn_e, KnL_ok, KnL_er, nLst_e, lsO_so, lstAt_e, KoIo_so, KoI_ok, oIx_e, KoL_so, oLen_e, KoAo_so, KoA_ok, KoA_er, oApp_e, KoEo_so, KoE_ok, oExt_e, KsIo2_so, KsIo_so, KsI2_ok, KsI_ok, KsI_er, sSetI_e, KC2_ok, KC2_er, KC_ok, KC_er, fCall_e, KI2_ok, KIo_so, KI_ok, fCallIo_e, KnC2_ok, KnC_ok, KnC_er, nCall_e, KsQ_t, KsQ_l, KsQ_f, iSeq_e, KsE_t, KsE_l, iEn_e, KR1_ok, iRn1_e, KL_ok, KL_er, lstE_e, Kc1_ok, Kc1_er, compN_e, Kc2_ok, Kc2_er, compN2_e, fitL_so, KoP_ok, oPt_e, oNo_e, Ksl3_ok, Ksl3_er, Ksl2_ok, Ksl2_er, Ksl1_ok, Ksl1_er, fSl_e, KTy_ok, KTy_er, sTry_e, KB_rt, KB_nx, KB_er, runB_e, outs_nil, outs_0, gsNil_e, gsCons_e, gTp_t, d__law_term_slope, q_x_x, q_x_whole, q_x_negative, q_x_log, q_x_exp, q_x_plus, q_x_minus, q_x_times, q_x_over, q_x_power, iw_x, ip_x, q_whole_x, q_whole_whole, q_whole_negative, q_whole_log, q_whole_exp, q_whole_plus, q_whole_minus, q_whole_times, q_whole_over, q_whole_power, iw_whole, ip_whole, q_negative_x, q_negative_whole, q_negative_negative, q_negative_log, q_negative_exp, q_negative_plus, q_negative_minus, q_negative_times, q_negative_over, q_negative_power, iw_negative, ip_negative, q_log_x, q_log_whole, q_log_negative, q_log_log, q_log_exp, q_log_plus, q_log_minus, q_log_times, q_log_over, q_log_power, iw_log, ip_log, q_exp_x, q_exp_whole, q_exp_negative, q_exp_log, q_exp_exp, q_exp_plus, q_exp_minus, q_exp_times, q_exp_over, q_exp_power, iw_exp, ip_exp, q_plus_x, q_plus_whole, q_plus_negative, q_plus_log, q_plus_exp, q_plus_plus, q_plus_minus, q_plus_times, q_plus_over, q_plus_power, iw_plus, ip_plus, q_minus_x, q_minus_whole, q_minus_negative, q_minus_log, q_minus_exp, q_minus_plus, q_minus_minus, q_minus_times, q_minus_over, q_minus_power, iw_minus, ip_minus, q_times_x, q_times_whole, q_times_negative, q_times_log, q_times_exp, q_times_plus, q_times_minus, q_times_times, q_times_over, q_times_power, iw_times, ip_times, q_over_x, q_over_whole, q_over_negative, q_over_log, q_over_exp, q_over_plus, q_over_minus, q_over_times, q_over_over, q_over_power, iw_over, ip_over, q_power_x, q_power_whole, q_power_negative, q_power_log, q_power_exp, q_power_plus, q_power_minus, q_power_times, q_power_over, q_power_power, iw_power, ip_power, gt_2, gt_3, gIx, L2.atI, L2.ixN, r, z, sub_s]
  · intro a b e w
    have r := hR a (by rw [w]; exact List.mem_cons_self ..)
    have r2 := hR b (by rw [w]; exact List.mem_cons_of_mem _ (List.mem_singleton.mpr rfl))
    simp [f0_e, put_so, K1_ok, K1_er, f1_e, K2b_ok, K2b_er, K2_ok, K2_er, f2_e, KN_ok, KN_er, fN_e, aNil_e, KAb_ok, KAb_er, KA_ok, KA_er, aCons_e, fvO_so, fv_e, KT_ok, KT_er, tV_e, KNt_ok, KNt_er, tNt_e, KAn_ok, KAn_er, tAn_e, KOr_ok, KOr_er, tOr'_e, KIe_ok, KIe_er, fIf_e, tYs_e, KEa_ok, eAn_e, KEo_ok, eOr_e, KCh3_ok, KCh3_er, KCh2_ok, KChO_so, KCh1_ok, KCh1_er, fCh_e, sNx_e, sBk_e, sCt_e, sRetN_e, sRaise_e, KS_nx, KS_rt, KS_bk, KS_ct, KS_er, sSeq_e, KIf_ok, KIf_er, sIf_e, KG_ok, KG_er, sAsg_e, nxt_so, gNm_e, KR_ok, KR_er, sRet_e, KD_ok, KD_er, sDrop_e, KP_ok, sPar_e, KF_ok, KF_er, sFor_e, KOw_ok, KOw_er, sOwn_e, KnL_ok, KnL_er, nLst_e, lsO_so, lstAt_e, KoIo_so, KoI_ok, oIx_e, KoL_so, oLen_e, KoAo_so, KoA_ok, KoA_er, oApp_e, KoEo_so, KoE_ok, oExt_e, KsIo2_so, KsIo_so, KsI2_ok, KsI_ok, KsI_er, sSetI_e, KC2_ok, KC2_er, KC_ok, KC_er, fCall_e, KI2_ok, KIo_so, KI_ok, fCallIo_e, KnC2_ok, KnC_ok, KnC_er, nCall_e, KsQ_t, KsQ_l, KsQ_f, iSeq_e, KsE_t, KsE_l, iEn_e, KR1_ok, iRn1_e, KL_ok, KL_er, lstE_e, Kc1_ok, Kc1_er, compN_e, Kc2_ok, Kc2_er, compN2_e, fitL_so, KoP_ok, oPt_e, oNo_e, Ksl3_ok, Ksl3_er, Ksl2_ok, Ksl2_er, Ksl1_ok, Ksl1_er, fSl_e, KTy_ok, KTy_er, sTry_e, KB_rt, KB_nx, KB_er, runB_e, outs_nil, outs_0, gsNil_e, gsCons_e, gTp_t, d__law_term_slope, q_x_x, q_x_whole, q_x_negative, q_x_log, q_x_exp, q_x_plus, q_x_minus, q_x_times, q_x_over, q_x_power, iw_x, ip_x, q_whole_x, q_whole_whole, q_whole_negative, q_whole_log, q_whole_exp, q_whole_plus, q_whole_minus, q_whole_times, q_whole_over, q_whole_power, iw_whole, ip_whole, q_negative_x, q_negative_whole, q_negative_negative, q_negative_log, q_negative_exp, q_negative_plus, q_negative_minus, q_negative_times, q_negative_over, q_negative_power, iw_negative, ip_negative, q_log_x, q_log_whole, q_log_negative, q_log_log, q_log_exp, q_log_plus, q_log_minus, q_log_times, q_log_over, q_log_power, iw_log, ip_log, q_exp_x, q_exp_whole, q_exp_negative, q_exp_log, q_exp_exp, q_exp_plus, q_exp_minus, q_exp_times, q_exp_over, q_exp_power, iw_exp, ip_exp, q_plus_x, q_plus_whole, q_plus_negative, q_plus_log, q_plus_exp, q_plus_plus, q_plus_minus, q_plus_times, q_plus_over, q_plus_power, iw_plus, ip_plus, q_minus_x, q_minus_whole, q_minus_negative, q_minus_log, q_minus_exp, q_minus_plus, q_minus_minus, q_minus_times, q_minus_over, q_minus_power, iw_minus, ip_minus, q_times_x, q_times_whole, q_times_negative, q_times_log, q_times_exp, q_times_plus, q_times_minus, q_times_times, q_times_over, q_times_power, iw_times, ip_times, q_over_x, q_over_whole, q_over_negative, q_over_log, q_over_exp, q_over_plus, q_over_minus, q_over_times, q_over_over, q_over_power, iw_over, ip_over, q_power_x, q_power_whole, q_power_negative, q_power_log, q_power_exp, q_power_plus, q_power_minus, q_power_times, q_power_over, q_power_power, iw_power, ip_power, gt_2, gt_3, gIx, L2.atI, L2.ixN, r, r2]
  · intro a b e w
    have r := hR a (by rw [w]; exact List.mem_cons_self ..)
    have r2 := hR b (by rw [w]; exact List.mem_cons_of_mem _ (List.mem_singleton.mpr rfl))
    simp [f0_e, put_so, K1_ok, K1_er, f1_e, K2b_ok, K2b_er, K2_ok, K2_er, f2_e, KN_ok, KN_er, fN_e, aNil_e, KAb_ok, KAb_er, KA_ok, KA_er, aCons_e, fvO_so, fv_e, KT_ok, KT_er, tV_e, KNt_ok, KNt_er, tNt_e, KAn_ok, KAn_er, tAn_e, KOr_ok, KOr_er, tOr'_e, KIe_ok, KIe_er, fIf_e, tYs_e, KEa_ok, eAn_e, KEo_ok, eOr_e, KCh3_ok, KCh3_er, KCh2_ok, KChO_so, KCh1_ok, KCh1_er, fCh_e, sNx_e, sBk_e, sCt_e, sRetN_e, sRaise_e, KS_nx, KS_rt, KS_bk, KS_ct, KS_er, sSeq_e, KIf_ok, KIf_er, sIf_e, KG_ok, KG_er, sAsg_e, nxt_so, gNm_e, KR_ok, KR_er, sRet_e, KD_ok, KD_er, sDrop_e, KP_ok, sPar_e, KF_ok, KF_er, sFor_e, KOw_ok, KOw_er, sOwn_e, KnL_ok, KnL_er, nLst_e, lsO_so, lstAt_e, KoIo_so, KoI_ok, oIx_e, KoL_so, oLen_e, KoAo_so, KoA_ok, KoA_er, oApp_e, KoEo_so, KoE_ok, oExt_e, KsIo2_so, KsIo_so, KsI2_ok, KsI_ok, KsI_er, sSetI_e, KC2_ok, KC2_er, KC_ok, KC_er, fCall_e, KI2_ok, KIo_so, KI_ok, fCallIo_e, KnC2_ok, KnC_ok, KnC_er, nCall_e, KsQ_t, KsQ_l, KsQ_f, iSeq_e, KsE_t, KsE_l, iEn_e, KR1_ok, iRn1_e, KL_ok, KL_er, lstE_e, Kc1_ok, Kc1_er, compN_e, Kc2_ok, Kc2_er, compN2_e, fitL_so, KoP_ok, oPt_e, oNo_e, Ksl3_ok, Ksl3_er, Ksl2_ok, Ksl2_er, Ksl1_ok, Ksl1_er, fSl_e, KTy_ok, KTy_er, sTry_e, KB_rt, KB_nx, KB_er, runB_e, outs_nil, outs_0, gsNil_e, gsCons_e, gTp_t, d__law_term_slope, q_x_x, q_x_whole, q_x_negative, q_x_log, q_x_exp, q_x_plus, q_x_minus, q_x_times, q_x_over, q_x_power, iw_x, ip_x, q_whole_x, q_whole_whole, q_whole_negative, q_whole_log, q_whole_exp, q_whole_plus, q_whole_minus, q_whole_times, q_whole_over, q_whole_power, iw_whole, ip_whole, q_negative_x, q_negative_whole, q_negative_negative, q_negative_log, q_negative_exp, q_negative_plus, q_negative_minus, q_negative_times, q_negative_over, q_negative_power, iw_negative, ip_negative, q_log_x, q_log_whole, q_log_negative, q_log_log, q_log_exp, q_log_plus, q_log_minus, q_log_times, q_log_over, q_log_power, iw_log, ip_log, q_exp_x, q_exp_whole, q_exp_negative, q_exp_log, q_exp_exp, q_exp_plus, q_exp_minus, q_exp_times, q_exp_over, q_exp_power, iw_exp, ip_exp, q_plus_x, q_plus_whole, q_plus_negative, q_plus_log, q_plus_exp, q_plus_plus, q_plus_minus, q_plus_times, q_plus_over, q_plus_power, iw_plus, ip_plus, q_minus_x, q_minus_whole, q_minus_negative, q_minus_log, q_minus_exp, q_minus_plus, q_minus_minus, q_minus_times, q_minus_over, q_minus_power, iw_minus, ip_minus, q_times_x, q_times_whole, q_times_negative, q_times_log, q_times_exp, q_times_plus, q_times_minus, q_times_times, q_times_over, q_times_power, iw_times, ip_times, q_over_x, q_over_whole, q_over_negative, q_over_log, q_over_exp, q_over_plus, q_over_minus, q_over_times, q_over_over, q_over_power, iw_over, ip_over, q_power_x, q_power_whole, q_power_negative, q_power_log, q_power_exp, q_power_plus, q_power_minus, q_power_times, q_power_over, q_power_power, iw_power, ip_power, gt_2, gt_3, gIx, L2.atI, L2.ixN, r, r2]
  · intro a b e w
    have r := hR a (by rw [w]; exact List.mem_cons_self ..)
    have r2 := hR b (by rw [w]; exact List.mem_cons_of_mem _ (List.mem_singleton.mpr rfl))
    simp [f0_e, put_so, K1_ok, K1_er, f1_e, K2b_ok, K2b_er, K2_ok, K2_er, f2_e, KN_ok, KN_er, fN_e, aNil_e, KAb_ok, KAb_er, KA_ok, KA_er, aCons_e, fvO_so, fv_e, KT_ok, KT_er, tV_e, KNt_ok, KNt_er, tNt_e, KAn_ok, KAn_er, tAn_e, KOr_ok, KOr_er, tOr'_e, KIe_ok, KIe_er, fIf_e, tYs_e, KEa_ok, eAn_e, KEo_ok, eOr_e, KCh3_ok, KCh3_er, KCh2_ok, KChO_so, KCh1_ok, KCh1_er, fCh_e, sNx_e, sBk_e, sCt_e, sRetN_e, sRaise_e, KS_nx, KS_rt, KS_bk, KS_ct, KS_er, sSeq_e, KIf_ok, KIf_er, sIf_e, KG_ok, KG_er, sAsg_e, nxt_so, gNm_e, KR_ok, KR_er, sRet_e, KD_ok, KD_er, sDrop_e, KP_ok, sPar_e, KF_ok, KF_er, sFor_e, KOw_ok, KOw_er, sOwn_e, KnL_ok, KnL_er, nLst_e, lsO_so, lstAt_e, KoIo_so, KoI_ok, oIx_e, KoL_so, oLen_e, KoAo_so, KoA_ok, KoA_er, oApp_e, KoEo_so, KoE_ok, oExt_e, KsIo2_so, KsIo_so, KsI2_ok, KsI_ok, KsI_er, sSetI_e, KC2_ok, KC2_er, KC_ok, KC_er, fCall_e, KI2_ok, KIo_so, KI_ok, fCallIo_e, KnC2_ok, KnC_ok, KnC_er, nCall_e, KsQ_t, KsQ_l, KsQ_f, iSeq_e, KsE_t, KsE_l, iEn_e, KR1_ok, iRn1_e, KL_ok, KL_er, lstE_e, Kc1_ok, Kc1_er, compN_e, Kc2_ok, Kc2_er, compN2_e, fitL_so, KoP_ok, oPt_e, oNo_e, Ksl3_ok, Ksl3_er, Ksl2_ok, Ksl2_er, Ksl1_ok, Ksl1_er, fSl_e, KTy_ok, KTy_er, sTry_e, KB_rt, KB_nx, KB_er, runB_e, outs_nil, outs_0, gsNil_e, gsCons_e, gTp_t, d__law_term_slope, q_x_x, q_x_whole, q_x_negative, q_x_log, q_x_exp, q_x_plus, q_x_minus, q_x_times, q_x_over, q_x_power, iw_x, ip_x, q_whole_x, q_whole_whole, q_whole_negative, q_whole_log, q_whole_exp, q_whole_plus, q_whole_minus, q_whole_times, q_whole_over, q_whole_power, iw_whole, ip_whole, q_negative_x, q_negative_whole, q_negative_negative, q_negative_log, q_negative_exp, q_negative_plus, q_negative_minus, q_negative_times, q_negative_over, q_negative_power, iw_negative, ip_negative, q_log_x, q_log_whole, q_log_negative, q_log_log, q_log_exp, q_log_plus, q_log_minus, q_log_times, q_log_over, q_log_power, iw_log, ip_log, q_exp_x, q_exp_whole, q_exp_negative, q_exp_log, q_exp_exp, q_exp_plus, q_exp_minus, q_exp_times, q_exp_over, q_exp_power, iw_exp, ip_exp, q_plus_x, q_plus_whole, q_plus_negative, q_plus_log, q_plus_exp, q_plus_plus, q_plus_minus, q_plus_times, q_plus_over, q_plus_power, iw_plus, ip_plus, q_minus_x, q_minus_whole, q_minus_negative, q_minus_log, q_minus_exp, q_minus_plus, q_minus_minus, q_minus_times, q_minus_over, q_minus_power, iw_minus, ip_minus, q_times_x, q_times_whole, q_times_negative, q_times_log, q_times_exp, q_times_plus, q_times_minus, q_times_times, q_times_over, q_times_power, iw_times, ip_times, q_over_x, q_over_whole, q_over_negative, q_over_log, q_over_exp, q_over_plus, q_over_minus, q_over_times, q_over_over, q_over_power, iw_over, ip_over, q_power_x, q_power_whole, q_power_negative, q_power_log, q_power_exp, q_power_plus, q_power_minus, q_power_times, q_power_over, q_power_power, iw_power, ip_power, gt_2, gt_3, gIx, L2.atI, L2.ixN, r, r2]
  · intro a b e w
    have r := hR a (by rw [w]; exact List.mem_cons_self ..)
    have r2 := hR b (by rw [w]; exact List.mem_cons_of_mem _ (List.mem_singleton.mpr rfl))
    simp [f0_e, put_so, K1_ok, K1_er, f1_e, K2b_ok, K2b_er, K2_ok, K2_er, f2_e, KN_ok, KN_er, fN_e, aNil_e, KAb_ok, KAb_er, KA_ok, KA_er, aCons_e, fvO_so, fv_e, KT_ok, KT_er, tV_e, KNt_ok, KNt_er, tNt_e, KAn_ok, KAn_er, tAn_e, KOr_ok, KOr_er, tOr'_e, KIe_ok, KIe_er, fIf_e, tYs_e, KEa_ok, eAn_e, KEo_ok, eOr_e, KCh3_ok, KCh3_er, KCh2_ok, KChO_so, KCh1_ok, KCh1_er, fCh_e, sNx_e, sBk_e, sCt_e, sRetN_e, sRaise_e, KS_nx, KS_rt, KS_bk, KS_ct, KS_er, sSeq_e, KIf_ok, KIf_er, sIf_e, KG_ok, KG_er, sAsg_e, nxt_so, gNm_e, KR_ok, KR_er, sRet_e, KD_ok, KD_er, sDrop_e, KP_ok, sPar_e, KF_ok, KF_er, sFor_e, KOw_ok, KOw_er, sOwn_e, KnL_ok, KnL_er, nLst_e, lsO_so, lstAt_e, KoIo_so, KoI_ok, oIx_e, KoL_so, oLen_e, KoAo_so, KoA_ok, KoA_er, oApp_e, KoEo_so, KoE_ok, oExt_e, KsIo2_so, KsIo_so, KsI2_ok, KsI_ok, KsI_er, sSetI_e, KC2_ok, KC2_er, KC_ok, KC_er, fCall_e, KI2_ok, KIo_so, KI_ok, fCallIo_e, KnC2_ok, KnC_ok, KnC_er, nCall_e, KsQ_t, KsQ_l, KsQ_f, iSeq_e, KsE_t, KsE_l, iEn_e, KR1_ok, iRn1_e, KL_ok, KL_er, lstE_e, Kc1_ok, Kc1_er, compN_e, Kc2_ok, Kc2_er, compN2_e, fitL_so, KoP_ok, oPt_e, oNo_e, Ksl3_ok, Ksl3_er, Ksl2_ok, Ksl2_er, Ksl1_ok, Ksl1_er, fSl_e, KTy_ok, KTy_er, sTry_e, KB_rt, KB_nx, KB_er, runB_e, outs_nil, outs_0, gsNil_e, gsCons_e, gTp_t, d__law_term_slope, q_x_x, q_x_whole, q_x_negative, q_x_log, q_x_exp, q_x_plus, q_x_minus, q_x_times, q_x_over, q_x_power, iw_x, ip_x, q_whole_x, q_whole_whole, q_whole_negative, q_whole_log, q_whole_exp, q_whole_plus, q_whole_minus, q_whole_times, q_whole_over, q_whole_power, iw_whole, ip_whole, q_negative_x, q_negative_whole, q_negative_negative, q_negative_log, q_negative_exp, q_negative_plus, q_negative_minus, q_negative_times, q_negative_over, q_negative_power, iw_negative, ip_negative, q_log_x, q_log_whole, q_log_negative, q_log_log, q_log_exp, q_log_plus, q_log_minus, q_log_times, q_log_over, q_log_power, iw_log, ip_log, q_exp_x, q_exp_whole, q_exp_negative, q_exp_log, q_exp_exp, q_exp_plus, q_exp_minus, q_exp_times, q_exp_over, q_exp_power, iw_exp, ip_exp, q_plus_x, q_plus_whole, q_plus_negative, q_plus_log, q_plus_exp, q_plus_plus, q_plus_minus, q_plus_times, q_plus_over, q_plus_power, iw_plus, ip_plus, q_minus_x, q_minus_whole, q_minus_negative, q_minus_log, q_minus_exp, q_minus_plus, q_minus_minus, q_minus_times, q_minus_over, q_minus_power, iw_minus, ip_minus, q_times_x, q_times_whole, q_times_negative, q_times_log, q_times_exp, q_times_plus, q_times_minus, q_times_times, q_times_over, q_times_power, iw_times, ip_times, q_over_x, q_over_whole, q_over_negative, q_over_log, q_over_exp, q_over_plus, q_over_minus, q_over_times, q_over_over, q_over_power, iw_over, ip_over, q_power_x, q_power_whole, q_power_negative, q_power_log, q_power_exp, q_power_plus, q_power_minus, q_power_times, q_power_over, q_power_power, iw_power, ip_power, gt_2, gt_3, gIx, L2.atI, L2.ixN, r, r2]
theorem lslope_ok : ∀ (n m : Nat) (d : D), WF n d → n ≤ m → F__law_term_slope m [d] = .ok (slp n d, [])
  | 0, _, _, h, _ => h.elim
  | n + 1, 0, _, _, l => by omega
  | n + 1, m + 1, d, h, l => lslope_step h fun p q => lslope_ok n m p (h.2.2 p q) (by omega)
end Q68
set_option maxHeartbeats 4000000
namespace Q68
open PySem PySem.Spec Pl
def stepW (W : List D) : D → Option D
  | .int k => if 0 ≤ k ∧ k < (W.length : Int) then W[k.toNat]? else none
  | _ => none
def step (d p : D) : Option D := stepW (within d) p
def way : List D → D → Option D
  | [], d => some d
  | p :: r, d => (step d p).bind (way r)
theorem step_kid {d p e : D} (h : step d p = some e) : e ∈ within d := by
  unfold step stepW at h
  split at h
  · split at h
    · exact List.mem_of_getElem? h
    · cases h
  · cases h
theorem way_len : ∀ (ps : List D) (n : Nat) (d e : D), WF n d → way ps d = some e → ps.length < n
  | [], 0, _, _, h, _ => h.elim
  | [], n + 1, _, _, _, _ => Nat.succ_pos _
  | p :: r, 0, _, _, h, _ => h.elim
  | p :: r, n + 1, d, e, h, w => by
    cases hs : step d p with
    | none =>
      have w' : (step d p).bind (way r) = some e := w
      rw [hs] at w'
      cases w'
    | some f =>
      have w' : (step d p).bind (way r) = some e := w
      rw [hs] at w'
      have := way_len r n f e (h.2.2 f (step_kid hs)) w'
      rw [List.length_cons]
      omega
theorem flat_mem : ∀ {ps : List D}, flatAll ps = true → ∀ p ∈ ps, flat p = true
  | [], _, _, m => (nomatch m)
  | a :: r, h, p, m => by
    have h' : (flat a && flatAll r) = true := h
    rw [Bool.and_eq_true] at h'
    rcases List.mem_cons.mp m with rfl | m
    · exact h'.1
    · exact flat_mem h'.2 p m
theorem ix_in {ws : List D} {k : Int} (h : 0 ≤ k ∧ k < ws.length) : gIx (.tup ws) (.int k) = ws[k.toNat]? := by
  show L2.atI ws k = _
  unfold L2.atI L2.ixN
  rw [if_pos h.1, if_pos h.2]
  rfl
/-! ### terms made -/
theorem nice_1 {s : Str} (h : NM.contains s = true) : nice (.tup [.str s]) = true := by
  show (decide (1 ≤ 4) && (NM.contains s && true)) = true
  rw [h] <;> rfl
theorem nice_2 {s : Str} {a : D} (h : NM.contains s = true) (ha : nice a = true) : nice (.tup [.str s, a]) = true := by
  show (decide (2 ≤ 4) && (NM.contains s && (nice a && true))) = true
  rw [h, ha] <;> rfl
theorem nice_3 {s : Str} {a b : D} (h : NM.contains s = true) (ha : nice a = true) (hb : nice b = true) : nice (.tup [.str s, a, b]) = true := by
  show (decide (3 ≤ 4) && (NM.contains s && (nice a && (nice b && true)))) = true
  rw [h, ha, hb] <;> rfl
theorem wf_x (n : Nat) : WF (n + 1) (.tup [.str "x"]) := ⟨by kernel_rfl, by kernel_rfl, fun p m => (nomatch m)⟩
theorem wf_whole (n : Nat) {i : Int} (h0 : 0 ≤ i) (h1 : i ≤ 1000000) : WF (n + 1) (.tup [.str "whole", .int i]) := by
  refine ⟨nice_2 (by kernel_rfl) rfl, ?_, fun p m => ?_⟩
  · have g : good (.tup [.str "whole", .int i]) = (decide (0 ≤ i) && decide (i ≤ 1000000)) := by kernel_rfl
    rw [g, decide_eq_true h0, decide_eq_true h1] <;> rfl
  · have w : within (.tup [.str "whole", .int i]) = [] := by kernel_rfl
    rw [w] at m
    cases m
theorem wf_one (n : Nat) {s : Str} {a : D} (h : s ∈ ONES) (w : WF n a) : WF (n + 1) (.tup [.str s, a]) := by
  rcases ones_cases h with rfl | rfl | rfl <;> exact ⟨nice_2 (by kernel_rfl) w.nice_, by kernel_rfl, fun p m => (List.mem_singleton.mp m) ▸ w⟩
theorem wf_pow (n : Nat) {a : D} {i : Int} (h0 : 0 ≤ i) (h1 : i ≤ 12) (w : WF n a) : WF (n + 1) (.tup [.str "power", a, .int i]) := by
  refine ⟨nice_3 (by kernel_rfl) w.nice_ rfl, ?_, fun p m => (List.mem_singleton.mp m) ▸ w⟩
  have g : good (.tup [.str "power", a, .int i]) = (decide (0 ≤ i) && decide (i ≤ 12)) := by kernel_rfl
  rw [g, decide_eq_true h0, decide_eq_true h1] <;> rfl
theorem wf_two (n : Nat) {s : Str} {a b : D} (h : s ∈ PAIRS) (w : WF n a) (w2 : WF n b) : WF (n + 1) (.tup [.str s, a, b]) := by
  rcases pairs_cases h with rfl | rfl | rfl | rfl <;> exact ⟨nice_3 (by kernel_rfl) w.nice_ w2.nice_, by kernel_rfl, fun p m => (List.mem_cons.mp m).elim (fun e => e ▸ w) fun m => (List.mem_singleton.mp m) ▸ w2⟩
abbrev Pw : D := .lst [.int 0, .int 1, .int 2, .int 3, .int 12]
abbrev Fn : D := .lst [.str "log", .str "exp"]
def restD (R : FD) : SD := (sSeq (sIf (tV (f2 gEq (fv 4) (f0 (.int 0)))) (sRet (fN gTup (aCons (f0 (.str "whole")) (aCons (fCallIo 0 F__law_some (aCons (fN gLst (aCons (f0 (.int 0)) (aCons (f0 (.int 1)) (aCons (f0 (.int 1)) (aCons (f0 (.int 2)) (aCons (f0 (.int 3)) (aCons (f0 (.int 4)) (aCons (f0 (.int 12)) (aCons (f0 (.int 1000000)) aNil))))))))) aNil)) aNil)))) sNx) (sSeq (sIf (tV (f2 gLt (fv 4) (f0 (.int 3)))) (sRet (fN gTup (aCons (f0 (.str "x")) aNil))) sNx) (sSeq (sAsg (fCallIo 0 R (aCons (f2 gSub (fv 1) (f0 (.int 1))) (aCons (fv 2) (aCons (fv 3) aNil)))) (gNm 5)) (sSeq (sIf (tV (f2 gEq (fv 4) (f0 (.int 3)))) (sRet (fN gTup (aCons (f0 (.str "negative")) (aCons (fv 5) aNil)))) sNx) (sSeq (sIf (tOr' (tV (f2 gEq (fv 4) (f0 (.int 4)))) (tV (f2 gEq (fv 4) (f0 (.int 5))))) (sRet (fN gTup (aCons (f0 (.str "power")) (aCons (fv 5) (aCons (fCallIo 0 F__law_some (aCons (fv 2) aNil)) aNil))))) sNx) (sSeq (sIf (tV (f2 gLt (fv 4) (f0 (.int 8)))) (sRet (fN gTup (aCons (fCallIo 0 F__law_some (aCons (fv 3) aNil)) (aCons (fv 5) aNil)))) sNx) (sSeq (sAsg (f2 gIx (fN gLst (aCons (f0 (.str "plus")) (aCons (f0 (.str "minus")) (aCons (f0 (.str "times")) (aCons (f0 (.str "over")) (aCons (f0 (.str "plus")) (aCons (f0 (.str "times")) aNil))))))) (f2 gSub (fv 4) (f0 (.int 8)))) (gNm 6)) (sRet (fN gTup (aCons (fv 6) (aCons (fv 5) (aCons (fCallIo 0 R (aCons (f2 gSub (fv 1) (f0 (.int 1))) (aCons (fv 2) (aCons (fv 3) aNil)))) aNil))))))))))))
theorem drawn_step {R : FD} {c c' n r : D} (e : fCallIo 0 F__law_roll (aCons (fIf (tV (f2 gGt (fv 1) (f0 (.int 0)))) (f0 (.int 14)) (f0 (.int 3))) aNil) [some c, some n, some Pw, some Fn, none, none, none] = .ok (r, [some c', some n, some Pw, some Fn, none, none, none])) :
    runB 7 [0] (d__law_drawn R) [c, n, Pw, Fn] = KB [0] (restD R [some c', some n, some Pw, some Fn, some r, none, none]) := by
  rw [runB_e]
  have e4 : d__law_drawn R = sSeq (sAsg (fCallIo 0 F__law_roll (aCons (fIf (tV (f2 gGt (fv 1) (f0 (.int 0)))) (f0 (.int 14)) (f0 (.int 3))) aNil)) (gNm 4)) (restD R) := rfl
  rw [e4]
  show KB [0] (sSeq (sAsg (fCallIo 0 F__law_roll (aCons (fIf (tV (f2 gGt (fv 1) (f0 (.int 0)))) (f0 (.int 14)) (f0 (.int 3))) aNil)) (gNm 4)) (restD R) [some c, some n, some Pw, some Fn, none, none, none]) = _
  rw [sSeq_e, sAsg_e, e] <;> rfl
theorem drawn_ok : ∀ (n m : Nat) (c : D), CupOk c → n < m → ∃ t c', F__law_drawn m [c, .int n, Pw, Fn] = .ok (t, [some c']) ∧ WF (n + 1) t ∧ CupOk c'
  | n, 0, _, _, l => by omega
  | n, m + 1, c, hc, l => by
    show ∃ t c', runB 7 [0] (d__law_drawn (F__law_drawn m)) [c, .int n, Pw, Fn] = .ok (t, [some c']) ∧ WF (n + 1) t ∧ CupOk c'
    have bnd : ∃ r c', fCallIo 0 F__law_roll (aCons (fIf (tV (f2 gGt (fv 1) (f0 (.int 0)))) (f0 (.int 14)) (f0 (.int 3))) aNil) [some c, some (.int n), some Pw, some Fn, none, none, none] = .ok (.int r, [some c', some (.int n), some Pw, some Fn, none, none, none]) ∧ 0 ≤ r ∧ CupOk c' ∧ (r < 3 ∨ (r < 14 ∧ ∃ k, n = k + 1)) := by
      cases n with
      | zero =>
        obtain ⟨r, c', e, r0, r1, hc'⟩ := roll_ok 3 hc (by omega)
        have d0 : decide ((0 : Int) < ((0 : Nat) : Int)) = false := by decide
        exact ⟨r, c', by simp only [f0_e, put_so, K1_ok, K1_er, f1_e, K2b_ok, K2b_er, K2_ok, K2_er, f2_e, KN_ok, KN_er, fN_e, aNil_e, KAb_ok, KAb_er, KA_ok, KA_er, aCons_e, fvO_so, fv_e, KT_ok, KT_er, tV_e, KNt_ok, KNt_er, tNt_e, KAn_ok, KAn_er, tAn_e, KOr_ok, KOr_er, tOr'_e, KIe_ok, KIe_er, fIf_e, tYs_e, KEa_ok, eAn_e, KEo_ok, eOr_e, KCh3_ok, KCh3_er, KCh2_ok, KChO_so, KCh1_ok, KCh1_er, fCh_e, sNx_e, sBk_e, sCt_e, sRetN_e, sRaise_e, KS_nx, KS_rt, KS_bk, KS_ct, KS_er, sSeq_e, KIf_ok, KIf_er, sIf_e, KG_ok, KG_er, sAsg_e, nxt_so, gNm_e, KR_ok, KR_er, sRet_e, KD_ok, KD_er, sDrop_e, KP_ok, sPar_e, KF_ok, KF_er, sFor_e, KOw_ok, KOw_er, sOwn_e, KnL_ok, KnL_er, nLst_e, lsO_so, lstAt_e, KoIo_so, KoI_ok, oIx_e, KoL_so, oLen_e, KoAo_so, KoA_ok, KoA_er, oApp_e, KoEo_so, KoE_ok, oExt_e, KsIo2_so, KsIo_so, KsI2_ok, KsI_ok, KsI_er, sSetI_e, KC2_ok, KC2_er, KC_ok, KC_er, fCall_e, KI2_ok, KIo_so, KI_ok, fCallIo_e, KnC2_ok, KnC_ok, KnC_er, nCall_e, KsQ_t, KsQ_l, KsQ_f, iSeq_e, KsE_t, KsE_l, iEn_e, KR1_ok, iRn1_e, KL_ok, KL_er, lstE_e, Kc1_ok, Kc1_er, compN_e, Kc2_ok, Kc2_er, compN2_e, fitL_so, KoP_ok, oPt_e, oNo_e, Ksl3_ok, Ksl3_er, Ksl2_ok, Ksl2_er, Ksl1_ok, Ksl1_er, fSl_e, KTy_ok, KTy_er, sTry_e, KB_rt, KB_nx, KB_er, runB_e, outs_nil, outs_0, gsNil_e, gsCons_e, gTp_t, gt_s, d0, e, List.getElem?_cons_succ, List.getElem?_cons_zero, List.set_cons_succ, List.set_cons_zero, Bool.false_eq_true, if_false], r0, hc', .inl r1⟩
      | succ k =>
        obtain ⟨r, c', e, r0, r1, hc'⟩ := roll_ok 14 hc (by omega)
        have d0 : decide ((0 : Int) < ((k + 1 : Nat) : Int)) = true := decide_eq_true (by omega)
        exact ⟨r, c', by simp only [f0_e, put_so, K1_ok, K1_er, f1_e, K2b_ok, K2b_er, K2_ok, K2_er, f2_e, KN_ok, KN_er, fN_e, aNil_e, KAb_ok, KAb_er, KA_ok, KA_er, aCons_e, fvO_so, fv_e, KT_ok, KT_er, tV_e, KNt_ok, KNt_er, tNt_e, KAn_ok, KAn_er, tAn_e, KOr_ok, KOr_er, tOr'_e, KIe_ok, KIe_er, fIf_e, tYs_e, KEa_ok, eAn_e, KEo_ok, eOr_e, KCh3_ok, KCh3_er, KCh2_ok, KChO_so, KCh1_ok, KCh1_er, fCh_e, sNx_e, sBk_e, sCt_e, sRetN_e, sRaise_e, KS_nx, KS_rt, KS_bk, KS_ct, KS_er, sSeq_e, KIf_ok, KIf_er, sIf_e, KG_ok, KG_er, sAsg_e, nxt_so, gNm_e, KR_ok, KR_er, sRet_e, KD_ok, KD_er, sDrop_e, KP_ok, sPar_e, KF_ok, KF_er, sFor_e, KOw_ok, KOw_er, sOwn_e, KnL_ok, KnL_er, nLst_e, lsO_so, lstAt_e, KoIo_so, KoI_ok, oIx_e, KoL_so, oLen_e, KoAo_so, KoA_ok, KoA_er, oApp_e, KoEo_so, KoE_ok, oExt_e, KsIo2_so, KsIo_so, KsI2_ok, KsI_ok, KsI_er, sSetI_e, KC2_ok, KC2_er, KC_ok, KC_er, fCall_e, KI2_ok, KIo_so, KI_ok, fCallIo_e, KnC2_ok, KnC_ok, KnC_er, nCall_e, KsQ_t, KsQ_l, KsQ_f, iSeq_e, KsE_t, KsE_l, iEn_e, KR1_ok, iRn1_e, KL_ok, KL_er, lstE_e, Kc1_ok, Kc1_er, compN_e, Kc2_ok, Kc2_er, compN2_e, fitL_so, KoP_ok, oPt_e, oNo_e, Ksl3_ok, Ksl3_er, Ksl2_ok, Ksl2_er, Ksl1_ok, Ksl1_er, fSl_e, KTy_ok, KTy_er, sTry_e, KB_rt, KB_nx, KB_er, runB_e, outs_nil, outs_0, gsNil_e, gsCons_e, gTp_t, gt_s, d0, e, List.getElem?_cons_succ, List.getElem?_cons_zero, List.set_cons_succ, List.set_cons_zero, if_true], r0, hc', .inr ⟨r1, k, rfl⟩⟩
    obtain ⟨r, c1, e1, r0, hc1, hb⟩ := bnd
    by_cases h3 : r < 3
    · have cs : r = 0 ∨ r = 1 ∨ r = 2 := by omega
      rcases cs with rfl | rfl | rfl
      · obtain ⟨d, c2, e2, md, hc2⟩ := some_ok (xs := [.int 0, .int 1, .int 1, .int 2, .int 3, .int 4, .int 12, .int 1000000]) hc1 (by simp) (by decide)
        obtain ⟨i, rfl, i0, i1⟩ : ∃ i : Int, d = .int i ∧ 0 ≤ i ∧ i ≤ 1000000 := by
          simp only [List.mem_cons, List.not_mem_nil, or_false] at md
          rcases md with rfl | rfl | rfl | rfl | rfl | rfl | rfl | rfl <;> exact ⟨_, rfl, by decide, by decide⟩
        have gl : gLst [.int 0, .int 1, .int 1, .int 2, .int 3, .int 4, .int 12, .int 1000000] = some (.lst [.int 0, .int 1, .int 1, .int 2, .int 3, .int 4, .int 12, .int 1000000]) := by kernel_rfl
        exact ⟨_, c2, by rw [drawn_step e1]; simp [f0_e, put_so, K1_ok, K1_er, f1_e, K2b_ok, K2b_er, K2_ok, K2_er, f2_e, KN_ok, KN_er, fN_e, aNil_e, KAb_ok, KAb_er, KA_ok, KA_er, aCons_e, fvO_so, fv_e, KT_ok, KT_er, tV_e, KNt_ok, KNt_er, tNt_e, KAn_ok, KAn_er, tAn_e, KOr_ok, KOr_er, tOr'_e, KIe_ok, KIe_er, fIf_e, tYs_e, KEa_ok, eAn_e, KEo_ok, eOr_e, KCh3_ok, KCh3_er, KCh2_ok, KChO_so, KCh1_ok, KCh1_er, fCh_e, sNx_e, sBk_e, sCt_e, sRetN_e, sRaise_e, KS_nx, KS_rt, KS_bk, KS_ct, KS_er, sSeq_e, KIf_ok, KIf_er, sIf_e, KG_ok, KG_er, sAsg_e, nxt_so, gNm_e, KR_ok, KR_er, sRet_e, KD_ok, KD_er, sDrop_e, KP_ok, sPar_e, KF_ok, KF_er, sFor_e, KOw_ok, KOw_er, sOwn_e, KnL_ok, KnL_er, nLst_e, lsO_so, lstAt_e, KoIo_so, KoI_ok, oIx_e, KoL_so, oLen_e, KoAo_so, KoA_ok, KoA_er, oApp_e, KoEo_so, KoE_ok, oExt_e, KsIo2_so, KsIo_so, KsI2_ok, KsI_ok, KsI_er, sSetI_e, KC2_ok, KC2_er, KC_ok, KC_er, fCall_e, KI2_ok, KIo_so, KI_ok, fCallIo_e, KnC2_ok, KnC_ok, KnC_er, nCall_e, KsQ_t, KsQ_l, KsQ_f, iSeq_e, KsE_t, KsE_l, iEn_e, KR1_ok, iRn1_e, KL_ok, KL_er, lstE_e, Kc1_ok, Kc1_er, compN_e, Kc2_ok, Kc2_er, compN2_e, fitL_so, KoP_ok, oPt_e, oNo_e, Ksl3_ok, Ksl3_er, Ksl2_ok, Ksl2_er, Ksl1_ok, Ksl1_er, fSl_e, KTy_ok, KTy_er, sTry_e, KB_rt, KB_nx, KB_er, runB_e, outs_nil, outs_0, gsNil_e, gsCons_e, gTp_t, restD, e2, eq_ii, gl, gt_2], wf_whole n i0 i1, hc2⟩
      · exact ⟨_, c1, by rw [drawn_step e1]; simp [f0_e, put_so, K1_ok, K1_er, f1_e, K2b_ok, K2b_er, K2_ok, K2_er, f2_e, KN_ok, KN_er, fN_e, aNil_e, KAb_ok, KAb_er, KA_ok, KA_er, aCons_e, fvO_so, fv_e, KT_ok, KT_er, tV_e, KNt_ok, KNt_er, tNt_e, KAn_ok, KAn_er, tAn_e, KOr_ok, KOr_er, tOr'_e, KIe_ok, KIe_er, fIf_e, tYs_e, KEa_ok, eAn_e, KEo_ok, eOr_e, KCh3_ok, KCh3_er, KCh2_ok, KChO_so, KCh1_ok, KCh1_er, fCh_e, sNx_e, sBk_e, sCt_e, sRetN_e, sRaise_e, KS_nx, KS_rt, KS_bk, KS_ct, KS_er, sSeq_e, KIf_ok, KIf_er, sIf_e, KG_ok, KG_er, sAsg_e, nxt_so, gNm_e, KR_ok, KR_er, sRet_e, KD_ok, KD_er, sDrop_e, KP_ok, sPar_e, KF_ok, KF_er, sFor_e, KOw_ok, KOw_er, sOwn_e, KnL_ok, KnL_er, nLst_e, lsO_so, lstAt_e, KoIo_so, KoI_ok, oIx_e, KoL_so, oLen_e, KoAo_so, KoA_ok, KoA_er, oApp_e, KoEo_so, KoE_ok, oExt_e, KsIo2_so, KsIo_so, KsI2_ok, KsI_ok, KsI_er, sSetI_e, KC2_ok, KC2_er, KC_ok, KC_er, fCall_e, KI2_ok, KIo_so, KI_ok, fCallIo_e, KnC2_ok, KnC_ok, KnC_er, nCall_e, KsQ_t, KsQ_l, KsQ_f, iSeq_e, KsE_t, KsE_l, iEn_e, KR1_ok, iRn1_e, KL_ok, KL_er, lstE_e, Kc1_ok, Kc1_er, compN_e, Kc2_ok, Kc2_er, compN2_e, fitL_so, KoP_ok, oPt_e, oNo_e, Ksl3_ok, Ksl3_er, Ksl2_ok, Ksl2_er, Ksl1_ok, Ksl1_er, fSl_e, KTy_ok, KTy_er, sTry_e, KB_rt, KB_nx, KB_er, runB_e, outs_nil, outs_0, gsNil_e, gsCons_e, gTp_t, restD, eq_ii, lt_s, gt_1], wf_x n, hc1⟩
      · exact ⟨_, c1, by rw [drawn_step e1]; simp [f0_e, put_so, K1_ok, K1_er, f1_e, K2b_ok, K2b_er, K2_ok, K2_er, f2_e, KN_ok, KN_er, fN_e, aNil_e, KAb_ok, KAb_er, KA_ok, KA_er, aCons_e, fvO_so, fv_e, KT_ok, KT_er, tV_e, KNt_ok, KNt_er, tNt_e, KAn_ok, KAn_er, tAn_e, KOr_ok, KOr_er, tOr'_e, KIe_ok, KIe_er, fIf_e, tYs_e, KEa_ok, eAn_e, KEo_ok, eOr_e, KCh3_ok, KCh3_er, KCh2_ok, KChO_so, KCh1_ok, KCh1_er, fCh_e, sNx_e, sBk_e, sCt_e, sRetN_e, sRaise_e, KS_nx, KS_rt, KS_bk, KS_ct, KS_er, sSeq_e, KIf_ok, KIf_er, sIf_e, KG_ok, KG_er, sAsg_e, nxt_so, gNm_e, KR_ok, KR_er, sRet_e, KD_ok, KD_er, sDrop_e, KP_ok, sPar_e, KF_ok, KF_er, sFor_e, KOw_ok, KOw_er, sOwn_e, KnL_ok, KnL_er, nLst_e, lsO_so, lstAt_e, KoIo_so, KoI_ok, oIx_e, KoL_so, oLen_e, KoAo_so, KoA_ok, KoA_er, oApp_e, KoEo_so, KoE_ok, oExt_e, KsIo2_so, KsIo_so, KsI2_ok, KsI_ok, KsI_er, sSetI_e, KC2_ok, KC2_er, KC_ok, KC_er, fCall_e, KI2_ok, KIo_so, KI_ok, fCallIo_e, KnC2_ok, KnC_ok, KnC_er, nCall_e, KsQ_t, KsQ_l, KsQ_f, iSeq_e, KsE_t, KsE_l, iEn_e, KR1_ok, iRn1_e, KL_ok, KL_er, lstE_e, Kc1_ok, Kc1_er, compN_e, Kc2_ok, Kc2_er, compN2_e, fitL_so, KoP_ok, oPt_e, oNo_e, Ksl3_ok, Ksl3_er, Ksl2_ok, Ksl2_er, Ksl1_ok, Ksl1_er, fSl_e, KTy_ok, KTy_er, sTry_e, KB_rt, KB_nx, KB_er, runB_e, outs_nil, outs_0, gsNil_e, gsCons_e, gTp_t, restD, eq_ii, lt_s, gt_1], wf_x n, hc1⟩
    · rcases hb with z | ⟨r14, k, rfl⟩
      · exact absurd z h3
      · obtain ⟨t, c2, e2, wt, hc2⟩ := drawn_ok k m c1 hc1 (by omega)
        obtain ⟨t3, c3, e3, wt3, hc3⟩ := drawn_ok k m c2 hc2 (by omega)
        have z : ((k + 1 : Nat) : Int) = (k : Int) + 1 := by omega
        have st := drawn_step (R := F__law_drawn m) e1
        rw [z] at st
        rw [z]
        generalize F__law_drawn m = R at *
        have cs : r = 3 ∨ r = 4 ∨ r = 5 ∨ r = 6 ∨ r = 7 ∨ r = 8 ∨ r = 9 ∨ r = 10 ∨ r = 11 ∨ r = 12 ∨ r = 13 := by omega
        have pw : ∃ i c4, F__law_some [c2, Pw] = .ok (.int i, [some c4]) ∧ 0 ≤ i ∧ i ≤ 12 ∧ CupOk c4 := by
          obtain ⟨d, c4, e4, md, hc4⟩ := some_ok (xs := [.int 0, .int 1, .int 2, .int 3, .int 12]) hc2 (by simp) (by decide)
          simp only [List.mem_cons, List.not_mem_nil, or_false] at md
          rcases md with rfl | rfl | rfl | rfl | rfl <;> exact ⟨_, c4, e4, by decide, by decide, hc4⟩
        have fn : ∃ s c4, F__law_some [c2, Fn] = .ok (.str s, [some c4]) ∧ s ∈ ONES ∧ CupOk c4 := by
          obtain ⟨d, c4, e4, md, hc4⟩ := some_ok (xs := [.str "log", .str "exp"]) hc2 (by simp) (by decide)
          simp only [List.mem_cons, List.not_mem_nil, or_false] at md
          rcases md with rfl | rfl <;> exact ⟨_, c4, e4, by decide +kernel, hc4⟩
        obtain ⟨i, c4, e4, i0, i1, hc4⟩ := pw
        obtain ⟨s, c5, e5, hs, hc5⟩ := fn
        have gl : gLst [.str "plus", .str "minus", .str "times", .str "over", .str "plus", .str "times"] = some (.lst [.str "plus", .str "minus", .str "times", .str "over", .str "plus", .str "times"]) := by kernel_rfl
        rcases cs with rfl | rfl | rfl | rfl | rfl | rfl | rfl | rfl | rfl | rfl | rfl
        · exact ⟨.tup [.str "negative", t], c2, by rw [st]; simp [f0_e, put_so, K1_ok, K1_er, f1_e, K2b_ok, K2b_er, K2_ok, K2_er, f2_e, KN_ok, KN_er, fN_e, aNil_e, KAb_ok, KAb_er, KA_ok, KA_er, aCons_e, fvO_so, fv_e, KT_ok, KT_er, tV_e, KNt_ok, KNt_er, tNt_e, KAn_ok, KAn_er, tAn_e, KOr_ok, KOr_er, tOr'_e, KIe_ok, KIe_er, fIf_e, tYs_e, KEa_ok, eAn_e, KEo_ok, eOr_e, KCh3_ok, KCh3_er, KCh2_ok, KChO_so, KCh1_ok, KCh1_er, fCh_e, sNx_e, sBk_e, sCt_e, sRetN_e, sRaise_e, KS_nx, KS_rt, KS_bk, KS_ct, KS_er, sSeq_e, KIf_ok, KIf_er, sIf_e, KG_ok, KG_er, sAsg_e, nxt_so, gNm_e, KR_ok, KR_er, sRet_e, KD_ok, KD_er, sDrop_e, KP_ok, sPar_e, KF_ok, KF_er, sFor_e, KOw_ok, KOw_er, sOwn_e, KnL_ok, KnL_er, nLst_e, lsO_so, lstAt_e, KoIo_so, KoI_ok, oIx_e, KoL_so, oLen_e, KoAo_so, KoA_ok, KoA_er, oApp_e, KoEo_so, KoE_ok, oExt_e, KsIo2_so, KsIo_so, KsI2_ok, KsI_ok, KsI_er, sSetI_e, KC2_ok, KC2_er, KC_ok, KC_er, fCall_e, KI2_ok, KIo_so, KI_ok, fCallIo_e, KnC2_ok, KnC_ok, KnC_er, nCall_e, KsQ_t, KsQ_l, KsQ_f, iSeq_e, KsE_t, KsE_l, iEn_e, KR1_ok, iRn1_e, KL_ok, KL_er, lstE_e, Kc1_ok, Kc1_er, compN_e, Kc2_ok, Kc2_er, compN2_e, fitL_so, KoP_ok, oPt_e, oNo_e, Ksl3_ok, Ksl3_er, Ksl2_ok, Ksl2_er, Ksl1_ok, Ksl1_er, fSl_e, KTy_ok, KTy_er, sTry_e, KB_rt, KB_nx, KB_er, runB_e, outs_nil, outs_0, gsNil_e, gsCons_e, gTp_t, restD, e2, e3, e4, e5, eq_ii, lt_s, sub_s, gl, gt_1, gt_2, gt_3, gIx, L2.atI, L2.ixN, Int.add_sub_cancel], wf_one (k + 1) (by decide +kernel) wt, hc2⟩
        · exact ⟨_, c4, by rw [st]; simp [f0_e, put_so, K1_ok, K1_er, f1_e, K2b_ok, K2b_er, K2_ok, K2_er, f2_e, KN_ok, KN_er, fN_e, aNil_e, KAb_ok, KAb_er, KA_ok, KA_er, aCons_e, fvO_so, fv_e, KT_ok, KT_er, tV_e, KNt_ok, KNt_er, tNt_e, KAn_ok, KAn_er, tAn_e, KOr_ok, KOr_er, tOr'_e, KIe_ok, KIe_er, fIf_e, tYs_e, KEa_ok, eAn_e, KEo_ok, eOr_e, KCh3_ok, KCh3_er, KCh2_ok, KChO_so, KCh1_ok, KCh1_er, fCh_e, sNx_e, sBk_e, sCt_e, sRetN_e, sRaise_e, KS_nx, KS_rt, KS_bk, KS_ct, KS_er, sSeq_e, KIf_ok, KIf_er, sIf_e, KG_ok, KG_er, sAsg_e, nxt_so, gNm_e, KR_ok, KR_er, sRet_e, KD_ok, KD_er, sDrop_e, KP_ok, sPar_e, KF_ok, KF_er, sFor_e, KOw_ok, KOw_er, sOwn_e, KnL_ok, KnL_er, nLst_e, lsO_so, lstAt_e, KoIo_so, KoI_ok, oIx_e, KoL_so, oLen_e, KoAo_so, KoA_ok, KoA_er, oApp_e, KoEo_so, KoE_ok, oExt_e, KsIo2_so, KsIo_so, KsI2_ok, KsI_ok, KsI_er, sSetI_e, KC2_ok, KC2_er, KC_ok, KC_er, fCall_e, KI2_ok, KIo_so, KI_ok, fCallIo_e, KnC2_ok, KnC_ok, KnC_er, nCall_e, KsQ_t, KsQ_l, KsQ_f, iSeq_e, KsE_t, KsE_l, iEn_e, KR1_ok, iRn1_e, KL_ok, KL_er, lstE_e, Kc1_ok, Kc1_er, compN_e, Kc2_ok, Kc2_er, compN2_e, fitL_so, KoP_ok, oPt_e, oNo_e, Ksl3_ok, Ksl3_er, Ksl2_ok, Ksl2_er, Ksl1_ok, Ksl1_er, fSl_e, KTy_ok, KTy_er, sTry_e, KB_rt, KB_nx, KB_er, runB_e, outs_nil, outs_0, gsNil_e, gsCons_e, gTp_t, restD, e2, e3, e4, e5, eq_ii, lt_s, sub_s, gl, gt_1, gt_2, gt_3, gIx, L2.atI, L2.ixN, Int.add_sub_cancel], wf_pow (k + 1) i0 i1 wt, hc4⟩
        · exact ⟨_, c4, by rw [st]; simp [f0_e, put_so, K1_ok, K1_er, f1_e, K2b_ok, K2b_er, K2_ok, K2_er, f2_e, KN_ok, KN_er, fN_e, aNil_e, KAb_ok, KAb_er, KA_ok, KA_er, aCons_e, fvO_so, fv_e, KT_ok, KT_er, tV_e, KNt_ok, KNt_er, tNt_e, KAn_ok, KAn_er, tAn_e, KOr_ok, KOr_er, tOr'_e, KIe_ok, KIe_er, fIf_e, tYs_e, KEa_ok, eAn_e, KEo_ok, eOr_e, KCh3_ok, KCh3_er, KCh2_ok, KChO_so, KCh1_ok, KCh1_er, fCh_e, sNx_e, sBk_e, sCt_e, sRetN_e, sRaise_e, KS_nx, KS_rt, KS_bk, KS_ct, KS_er, sSeq_e, KIf_ok, KIf_er, sIf_e, KG_ok, KG_er, sAsg_e, nxt_so, gNm_e, KR_ok, KR_er, sRet_e, KD_ok, KD_er, sDrop_e, KP_ok, sPar_e, KF_ok, KF_er, sFor_e, KOw_ok, KOw_er, sOwn_e, KnL_ok, KnL_er, nLst_e, lsO_so, lstAt_e, KoIo_so, KoI_ok, oIx_e, KoL_so, oLen_e, KoAo_so, KoA_ok, KoA_er, oApp_e, KoEo_so, KoE_ok, oExt_e, KsIo2_so, KsIo_so, KsI2_ok, KsI_ok, KsI_er, sSetI_e, KC2_ok, KC2_er, KC_ok, KC_er, fCall_e, KI2_ok, KIo_so, KI_ok, fCallIo_e, KnC2_ok, KnC_ok, KnC_er, nCall_e, KsQ_t, KsQ_l, KsQ_f, iSeq_e, KsE_t, KsE_l, iEn_e, KR1_ok, iRn1_e, KL_ok, KL_er, lstE_e, Kc1_ok, Kc1_er, compN_e, Kc2_ok, Kc2_er, compN2_e, fitL_so, KoP_ok, oPt_e, oNo_e, Ksl3_ok, Ksl3_er, Ksl2_ok, Ksl2_er, Ksl1_ok, Ksl1_er, fSl_e, KTy_ok, KTy_er, sTry_e, KB_rt, KB_nx, KB_er, runB_e, outs_nil, outs_0, gsNil_e, gsCons_e, gTp_t, restD, e2, e3, e4, e5, eq_ii, lt_s, sub_s, gl, gt_1, gt_2, gt_3, gIx, L2.atI, L2.ixN, Int.add_sub_cancel], wf_pow (k + 1) i0 i1 wt, hc4⟩
        · exact ⟨_, c5, by rw [st]; simp [f0_e, put_so, K1_ok, K1_er, f1_e, K2b_ok, K2b_er, K2_ok, K2_er, f2_e, KN_ok, KN_er, fN_e, aNil_e, KAb_ok, KAb_er, KA_ok, KA_er, aCons_e, fvO_so, fv_e, KT_ok, KT_er, tV_e, KNt_ok, KNt_er, tNt_e, KAn_ok, KAn_er, tAn_e, KOr_ok, KOr_er, tOr'_e, KIe_ok, KIe_er, fIf_e, tYs_e, KEa_ok, eAn_e, KEo_ok, eOr_e, KCh3_ok, KCh3_er, KCh2_ok, KChO_so, KCh1_ok, KCh1_er, fCh_e, sNx_e, sBk_e, sCt_e, sRetN_e, sRaise_e, KS_nx, KS_rt, KS_bk, KS_ct, KS_er, sSeq_e, KIf_ok, KIf_er, sIf_e, KG_ok, KG_er, sAsg_e, nxt_so, gNm_e, KR_ok, KR_er, sRet_e, KD_ok, KD_er, sDrop_e, KP_ok, sPar_e, KF_ok, KF_er, sFor_e, KOw_ok, KOw_er, sOwn_e, KnL_ok, KnL_er, nLst_e, lsO_so, lstAt_e, KoIo_so, KoI_ok, oIx_e, KoL_so, oLen_e, KoAo_so, KoA_ok, KoA_er, oApp_e, KoEo_so, KoE_ok, oExt_e, KsIo2_so, KsIo_so, KsI2_ok, KsI_ok, KsI_er, sSetI_e, KC2_ok, KC2_er, KC_ok, KC_er, fCall_e, KI2_ok, KIo_so, KI_ok, fCallIo_e, KnC2_ok, KnC_ok, KnC_er, nCall_e, KsQ_t, KsQ_l, KsQ_f, iSeq_e, KsE_t, KsE_l, iEn_e, KR1_ok, iRn1_e, KL_ok, KL_er, lstE_e, Kc1_ok, Kc1_er, compN_e, Kc2_ok, Kc2_er, compN2_e, fitL_so, KoP_ok, oPt_e, oNo_e, Ksl3_ok, Ksl3_er, Ksl2_ok, Ksl2_er, Ksl1_ok, Ksl1_er, fSl_e, KTy_ok, KTy_er, sTry_e, KB_rt, KB_nx, KB_er, runB_e, outs_nil, outs_0, gsNil_e, gsCons_e, gTp_t, restD, e2, e3, e4, e5, eq_ii, lt_s, sub_s, gl, gt_1, gt_2, gt_3, gIx, L2.atI, L2.ixN, Int.add_sub_cancel], wf_one (k + 1) hs wt, hc5⟩
        · exact ⟨_, c5, by rw [st]; simp [f0_e, put_so, K1_ok, K1_er, f1_e, K2b_ok, K2b_er, K2_ok, K2_er, f2_e, KN_ok, KN_er, fN_e, aNil_e, KAb_ok, KAb_er, KA_ok, KA_er, aCons_e, fvO_so, fv_e, KT_ok, KT_er, tV_e, KNt_ok, KNt_er, tNt_e, KAn_ok, KAn_er, tAn_e, KOr_ok, KOr_er, tOr'_e, KIe_ok, KIe_er, fIf_e, tYs_e, KEa_ok, eAn_e, KEo_ok, eOr_e, KCh3_ok, KCh3_er, KCh2_ok, KChO_so, KCh1_ok, KCh1_er, fCh_e, sNx_e, sBk_e, sCt_e, sRetN_e, sRaise_e, KS_nx, KS_rt, KS_bk, KS_ct, KS_er, sSeq_e, KIf_ok, KIf_er, sIf_e, KG_ok, KG_er, sAsg_e, nxt_so, gNm_e, KR_ok, KR_er, sRet_e, KD_ok, KD_er, sDrop_e, KP_ok, sPar_e, KF_ok, KF_er, sFor_e, KOw_ok, KOw_er, sOwn_e, KnL_ok, KnL_er, nLst_e, lsO_so, lstAt_e, KoIo_so, KoI_ok, oIx_e, KoL_so, oLen_e, KoAo_so, KoA_ok, KoA_er, oApp_e, KoEo_so, KoE_ok, oExt_e, KsIo2_so, KsIo_so, KsI2_ok, KsI_ok, KsI_er, sSetI_e, KC2_ok, KC2_er, KC_ok, KC_er, fCall_e, KI2_ok, KIo_so, KI_ok, fCallIo_e, KnC2_ok, KnC_ok, KnC_er, nCall_e, KsQ_t, KsQ_l, KsQ_f, iSeq_e, KsE_t, KsE_l, iEn_e, KR1_ok, iRn1_e, KL_ok, KL_er, lstE_e, Kc1_ok, Kc1_er, compN_e, Kc2_ok, Kc2_er, compN2_e, fitL_so, KoP_ok, oPt_e, oNo_e, Ksl3_ok, Ksl3_er, Ksl2_ok, Ksl2_er, Ksl1_ok, Ksl1_er, fSl_e, KTy_ok, KTy_er, sTry_e, KB_rt, KB_nx, KB_er, runB_e, outs_nil, outs_0, gsNil_e, gsCons_e, gTp_t, restD, e2, e3, e4, e5, eq_ii, lt_s, sub_s, gl, gt_1, gt_2, gt_3, gIx, L2.atI, L2.ixN, Int.add_sub_cancel], wf_one (k + 1) hs wt, hc5⟩
        · exact ⟨.tup [.str "plus", t, t3], c3, by rw [st]; simp [f0_e, put_so, K1_ok, K1_er, f1_e, K2b_ok, K2b_er, K2_ok, K2_er, f2_e, KN_ok, KN_er, fN_e, aNil_e, KAb_ok, KAb_er, KA_ok, KA_er, aCons_e, fvO_so, fv_e, KT_ok, KT_er, tV_e, KNt_ok, KNt_er, tNt_e, KAn_ok, KAn_er, tAn_e, KOr_ok, KOr_er, tOr'_e, KIe_ok, KIe_er, fIf_e, tYs_e, KEa_ok, eAn_e, KEo_ok, eOr_e, KCh3_ok, KCh3_er, KCh2_ok, KChO_so, KCh1_ok, KCh1_er, fCh_e, sNx_e, sBk_e, sCt_e, sRetN_e, sRaise_e, KS_nx, KS_rt, KS_bk, KS_ct, KS_er, sSeq_e, KIf_ok, KIf_er, sIf_e, KG_ok, KG_er, sAsg_e, nxt_so, gNm_e, KR_ok, KR_er, sRet_e, KD_ok, KD_er, sDrop_e, KP_ok, sPar_e, KF_ok, KF_er, sFor_e, KOw_ok, KOw_er, sOwn_e, KnL_ok, KnL_er, nLst_e, lsO_so, lstAt_e, KoIo_so, KoI_ok, oIx_e, KoL_so, oLen_e, KoAo_so, KoA_ok, KoA_er, oApp_e, KoEo_so, KoE_ok, oExt_e, KsIo2_so, KsIo_so, KsI2_ok, KsI_ok, KsI_er, sSetI_e, KC2_ok, KC2_er, KC_ok, KC_er, fCall_e, KI2_ok, KIo_so, KI_ok, fCallIo_e, KnC2_ok, KnC_ok, KnC_er, nCall_e, KsQ_t, KsQ_l, KsQ_f, iSeq_e, KsE_t, KsE_l, iEn_e, KR1_ok, iRn1_e, KL_ok, KL_er, lstE_e, Kc1_ok, Kc1_er, compN_e, Kc2_ok, Kc2_er, compN2_e, fitL_so, KoP_ok, oPt_e, oNo_e, Ksl3_ok, Ksl3_er, Ksl2_ok, Ksl2_er, Ksl1_ok, Ksl1_er, fSl_e, KTy_ok, KTy_er, sTry_e, KB_rt, KB_nx, KB_er, runB_e, outs_nil, outs_0, gsNil_e, gsCons_e, gTp_t, restD, e2, e3, e4, e5, eq_ii, lt_s, sub_s, gl, gt_1, gt_2, gt_3, gIx, L2.atI, L2.ixN, Int.add_sub_cancel], wf_two (k + 1) (by decide +kernel) wt wt3, hc3⟩
        · exact ⟨.tup [.str "minus", t, t3], c3, by rw [st]; simp [f0_e, put_so, K1_ok, K1_er, f1_e, K2b_ok, K2b_er, K2_ok, K2_er, f2_e, KN_ok, KN_er, fN_e, aNil_e, KAb_ok, KAb_er, KA_ok, KA_er, aCons_e, fvO_so, fv_e, KT_ok, KT_er, tV_e, KNt_ok, KNt_er, tNt_e, KAn_ok, KAn_er, tAn_e, KOr_ok, KOr_er, tOr'_e, KIe_ok, KIe_er, fIf_e, tYs_e, KEa_ok, eAn_e, KEo_ok, eOr_e, KCh3_ok, KCh3_er, KCh2_ok, KChO_so, KCh1_ok, KCh1_er, fCh_e, sNx_e, sBk_e, sCt_e, sRetN_e, sRaise_e, KS_nx, KS_rt, KS_bk, KS_ct, KS_er, sSeq_e, KIf_ok, KIf_er, sIf_e, KG_ok, KG_er, sAsg_e, nxt_so, gNm_e, KR_ok, KR_er, sRet_e, KD_ok, KD_er, sDrop_e, KP_ok, sPar_e, KF_ok, KF_er, sFor_e, KOw_ok, KOw_er, sOwn_e, KnL_ok, KnL_er, nLst_e, lsO_so, lstAt_e, KoIo_so, KoI_ok, oIx_e, KoL_so, oLen_e, KoAo_so, KoA_ok, KoA_er, oApp_e, KoEo_so, KoE_ok, oExt_e, KsIo2_so, KsIo_so, KsI2_ok, KsI_ok, KsI_er, sSetI_e, KC2_ok, KC2_er, KC_ok, KC_er, fCall_e, KI2_ok, KIo_so, KI_ok, fCallIo_e, KnC2_ok, KnC_ok, KnC_er, nCall_e, KsQ_t, KsQ_l, KsQ_f, iSeq_e, KsE_t, KsE_l, iEn_e, KR1_ok, iRn1_e, KL_ok, KL_er, lstE_e, Kc1_ok, Kc1_er, compN_e, Kc2_ok, Kc2_er, compN2_e, fitL_so, KoP_ok, oPt_e, oNo_e, Ksl3_ok, Ksl3_er, Ksl2_ok, Ksl2_er, Ksl1_ok, Ksl1_er, fSl_e, KTy_ok, KTy_er, sTry_e, KB_rt, KB_nx, KB_er, runB_e, outs_nil, outs_0, gsNil_e, gsCons_e, gTp_t, restD, e2, e3, e4, e5, eq_ii, lt_s, sub_s, gl, gt_1, gt_2, gt_3, gIx, L2.atI, L2.ixN, Int.add_sub_cancel], wf_two (k + 1) (by decide +kernel) wt wt3, hc3⟩
        · exact ⟨.tup [.str "times", t, t3], c3, by rw [st]; simp [f0_e, put_so, K1_ok, K1_er, f1_e, K2b_ok, K2b_er, K2_ok, K2_er, f2_e, KN_ok, KN_er, fN_e, aNil_e, KAb_ok, KAb_er, KA_ok, KA_er, aCons_e, fvO_so, fv_e, KT_ok, KT_er, tV_e, KNt_ok, KNt_er, tNt_e, KAn_ok, KAn_er, tAn_e, KOr_ok, KOr_er, tOr'_e, KIe_ok, KIe_er, fIf_e, tYs_e, KEa_ok, eAn_e, KEo_ok, eOr_e, KCh3_ok, KCh3_er, KCh2_ok, KChO_so, KCh1_ok, KCh1_er, fCh_e, sNx_e, sBk_e, sCt_e, sRetN_e, sRaise_e, KS_nx, KS_rt, KS_bk, KS_ct, KS_er, sSeq_e, KIf_ok, KIf_er, sIf_e, KG_ok, KG_er, sAsg_e, nxt_so, gNm_e, KR_ok, KR_er, sRet_e, KD_ok, KD_er, sDrop_e, KP_ok, sPar_e, KF_ok, KF_er, sFor_e, KOw_ok, KOw_er, sOwn_e, KnL_ok, KnL_er, nLst_e, lsO_so, lstAt_e, KoIo_so, KoI_ok, oIx_e, KoL_so, oLen_e, KoAo_so, KoA_ok, KoA_er, oApp_e, KoEo_so, KoE_ok, oExt_e, KsIo2_so, KsIo_so, KsI2_ok, KsI_ok, KsI_er, sSetI_e, KC2_ok, KC2_er, KC_ok, KC_er, fCall_e, KI2_ok, KIo_so, KI_ok, fCallIo_e, KnC2_ok, KnC_ok, KnC_er, nCall_e, KsQ_t, KsQ_l, KsQ_f, iSeq_e, KsE_t, KsE_l, iEn_e, KR1_ok, iRn1_e, KL_ok, KL_er, lstE_e, Kc1_ok, Kc1_er, compN_e, Kc2_ok, Kc2_er, compN2_e, fitL_so, KoP_ok, oPt_e, oNo_e, Ksl3_ok, Ksl3_er, Ksl2_ok, Ksl2_er, Ksl1_ok, Ksl1_er, fSl_e, KTy_ok, KTy_er, sTry_e, KB_rt, KB_nx, KB_er, runB_e, outs_nil, outs_0, gsNil_e, gsCons_e, gTp_t, restD, e2, e3, e4, e5, eq_ii, lt_s, sub_s, gl, gt_1, gt_2, gt_3, gIx, L2.atI, L2.ixN, Int.add_sub_cancel], wf_two (k + 1) (by decide +kernel) wt wt3, hc3⟩
        · exact ⟨.tup [.str "over", t, t3], c3, by rw [st]; simp [f0_e, put_so, K1_ok, K1_er, f1_e, K2b_ok, K2b_er, K2_ok, K2_er, f2_e, KN_ok, KN_er, fN_e, aNil_e, KAb_ok, KAb_er, KA_ok, KA_er, aCons_e, fvO_so, fv_e, KT_ok, KT_er, tV_e, KNt_ok, KNt_er, tNt_e, KAn_ok, KAn_er, tAn_e, KOr_ok, KOr_er, tOr'_e, KIe_ok, KIe_er, fIf_e, tYs_e, KEa_ok, eAn_e, KEo_ok, eOr_e, KCh3_ok, KCh3_er, KCh2_ok, KChO_so, KCh1_ok, KCh1_er, fCh_e, sNx_e, sBk_e, sCt_e, sRetN_e, sRaise_e, KS_nx, KS_rt, KS_bk, KS_ct, KS_er, sSeq_e, KIf_ok, KIf_er, sIf_e, KG_ok, KG_er, sAsg_e, nxt_so, gNm_e, KR_ok, KR_er, sRet_e, KD_ok, KD_er, sDrop_e, KP_ok, sPar_e, KF_ok, KF_er, sFor_e, KOw_ok, KOw_er, sOwn_e, KnL_ok, KnL_er, nLst_e, lsO_so, lstAt_e, KoIo_so, KoI_ok, oIx_e, KoL_so, oLen_e, KoAo_so, KoA_ok, KoA_er, oApp_e, KoEo_so, KoE_ok, oExt_e, KsIo2_so, KsIo_so, KsI2_ok, KsI_ok, KsI_er, sSetI_e, KC2_ok, KC2_er, KC_ok, KC_er, fCall_e, KI2_ok, KIo_so, KI_ok, fCallIo_e, KnC2_ok, KnC_ok, KnC_er, nCall_e, KsQ_t, KsQ_l, KsQ_f, iSeq_e, KsE_t, KsE_l, iEn_e, KR1_ok, iRn1_e, KL_ok, KL_er, lstE_e, Kc1_ok, Kc1_er, compN_e, Kc2_ok, Kc2_er, compN2_e, fitL_so, KoP_ok, oPt_e, oNo_e, Ksl3_ok, Ksl3_er, Ksl2_ok, Ksl2_er, Ksl1_ok, Ksl1_er, fSl_e, KTy_ok, KTy_er, sTry_e, KB_rt, KB_nx, KB_er, runB_e, outs_nil, outs_0, gsNil_e, gsCons_e, gTp_t, restD, e2, e3, e4, e5, eq_ii, lt_s, sub_s, gl, gt_1, gt_2, gt_3, gIx, L2.atI, L2.ixN, Int.add_sub_cancel], wf_two (k + 1) (by decide +kernel) wt wt3, hc3⟩
        · exact ⟨.tup [.str "plus", t, t3], c3, by rw [st]; simp [f0_e, put_so, K1_ok, K1_er, f1_e, K2b_ok, K2b_er, K2_ok, K2_er, f2_e, KN_ok, KN_er, fN_e, aNil_e, KAb_ok, KAb_er, KA_ok, KA_er, aCons_e, fvO_so, fv_e, KT_ok, KT_er, tV_e, KNt_ok, KNt_er, tNt_e, KAn_ok, KAn_er, tAn_e, KOr_ok, KOr_er, tOr'_e, KIe_ok, KIe_er, fIf_e, tYs_e, KEa_ok, eAn_e, KEo_ok, eOr_e, KCh3_ok, KCh3_er, KCh2_ok, KChO_so, KCh1_ok, KCh1_er, fCh_e, sNx_e, sBk_e, sCt_e, sRetN_e, sRaise_e, KS_nx, KS_rt, KS_bk, KS_ct, KS_er, sSeq_e, KIf_ok, KIf_er, sIf_e, KG_ok, KG_er, sAsg_e, nxt_so, gNm_e, KR_ok, KR_er, sRet_e, KD_ok, KD_er, sDrop_e, KP_ok, sPar_e, KF_ok, KF_er, sFor_e, KOw_ok, KOw_er, sOwn_e, KnL_ok, KnL_er, nLst_e, lsO_so, lstAt_e, KoIo_so, KoI_ok, oIx_e, KoL_so, oLen_e, KoAo_so, KoA_ok, KoA_er, oApp_e, KoEo_so, KoE_ok, oExt_e, KsIo2_so, KsIo_so, KsI2_ok, KsI_ok, KsI_er, sSetI_e, KC2_ok, KC2_er, KC_ok, KC_er, fCall_e, KI2_ok, KIo_so, KI_ok, fCallIo_e, KnC2_ok, KnC_ok, KnC_er, nCall_e, KsQ_t, KsQ_l, KsQ_f, iSeq_e, KsE_t, KsE_l, iEn_e, KR1_ok, iRn1_e, KL_ok, KL_er, lstE_e, Kc1_ok, Kc1_er, compN_e, Kc2_ok, Kc2_er, compN2_e, fitL_so, KoP_ok, oPt_e, oNo_e, Ksl3_ok, Ksl3_er, Ksl2_ok, Ksl2_er, Ksl1_ok, Ksl1_er, fSl_e, KTy_ok, KTy_er, sTry_e, KB_rt, KB_nx, KB_er, runB_e, outs_nil, outs_0, gsNil_e, gsCons_e, gTp_t, restD, e2, e3, e4, e5, eq_ii, lt_s, sub_s, gl, gt_1, gt_2, gt_3, gIx, L2.atI, L2.ixN, Int.add_sub_cancel], wf_two (k + 1) (by decide +kernel) wt wt3, hc3⟩
        · exact ⟨.tup [.str "times", t, t3], c3, by rw [st]; simp [f0_e, put_so, K1_ok, K1_er, f1_e, K2b_ok, K2b_er, K2_ok, K2_er, f2_e, KN_ok, KN_er, fN_e, aNil_e, KAb_ok, KAb_er, KA_ok, KA_er, aCons_e, fvO_so, fv_e, KT_ok, KT_er, tV_e, KNt_ok, KNt_er, tNt_e, KAn_ok, KAn_er, tAn_e, KOr_ok, KOr_er, tOr'_e, KIe_ok, KIe_er, fIf_e, tYs_e, KEa_ok, eAn_e, KEo_ok, eOr_e, KCh3_ok, KCh3_er, KCh2_ok, KChO_so, KCh1_ok, KCh1_er, fCh_e, sNx_e, sBk_e, sCt_e, sRetN_e, sRaise_e, KS_nx, KS_rt, KS_bk, KS_ct, KS_er, sSeq_e, KIf_ok, KIf_er, sIf_e, KG_ok, KG_er, sAsg_e, nxt_so, gNm_e, KR_ok, KR_er, sRet_e, KD_ok, KD_er, sDrop_e, KP_ok, sPar_e, KF_ok, KF_er, sFor_e, KOw_ok, KOw_er, sOwn_e, KnL_ok, KnL_er, nLst_e, lsO_so, lstAt_e, KoIo_so, KoI_ok, oIx_e, KoL_so, oLen_e, KoAo_so, KoA_ok, KoA_er, oApp_e, KoEo_so, KoE_ok, oExt_e, KsIo2_so, KsIo_so, KsI2_ok, KsI_ok, KsI_er, sSetI_e, KC2_ok, KC2_er, KC_ok, KC_er, fCall_e, KI2_ok, KIo_so, KI_ok, fCallIo_e, KnC2_ok, KnC_ok, KnC_er, nCall_e, KsQ_t, KsQ_l, KsQ_f, iSeq_e, KsE_t, KsE_l, iEn_e, KR1_ok, iRn1_e, KL_ok, KL_er, lstE_e, Kc1_ok, Kc1_er, compN_e, Kc2_ok, Kc2_er, compN2_e, fitL_so, KoP_ok, oPt_e, oNo_e, Ksl3_ok, Ksl3_er, Ksl2_ok, Ksl2_er, Ksl1_ok, Ksl1_er, fSl_e, KTy_ok, KTy_er, sTry_e, KB_rt, KB_nx, KB_er, runB_e, outs_nil, outs_0, gsNil_e, gsCons_e, gTp_t, restD, e2, e3, e4, e5, eq_ii, lt_s, sub_s, gl, gt_1, gt_2, gt_3, gIx, L2.atI, L2.ixN, Int.add_sub_cancel], wf_two (k + 1) (by decide +kernel) wt wt3, hc3⟩
/-! ### ways, made -/
def bodyW : SD := (sSeq (sAsg (fCall F__law_parts (aCons (fv 1) aNil)) (gNm 4)) (sIf (tV (f2 gGt (fN gLen (aCons (fv 4) aNil)) (f0 (.int 0)))) (sSeq (sAsg (fCallIo 0 F__law_roll (aCons (fN gLen (aCons (fv 4) aNil)) aNil)) (gNm 5)) (sPar 2 1 (aCons (f2 gAdd (fv 2) (fN gTup (aCons (fv 5) aNil))) (aCons (f2 gIx (fv 4) (fv 5)) aNil)))) sNx))
theorem ta {a b : List D} (h : a.length + b.length ≤ 16777216) : gAdd (.tup a) (.tup b) = some (.tup (a ++ b)) := by
  have e := lnOk_of h
  show (if lnOk (a.length + b.length) = true then _ else _) = _
  rw [if_pos e]
theorem way_snoc : ∀ (ps : List D) (d e q : D), way ps d = some e → way (ps ++ [q]) d = step e q
  | [], d, e, q, h => by
    cases h
    show (step d q).bind (way []) = step d q
    cases step d q <;> rfl
  | p :: r, d, e, q, h => by
    have h' : (step d p).bind (way r) = some e := h
    show (step d p).bind (way (r ++ [q])) = step e q
    cases hs : step d p with
    | none => rw [hs] at h'; cases h'
    | some f =>
      rw [hs] at h'
      exact way_snoc r f e q h'
theorem path_loop {n : Nat} {t0 : D} : ∀ (ds : List D) (n : Nat) (c t : D) (acc : List D) (X Y Z : Option D), CupOk c → WF n t → way acc t0 = some t → (∀ p ∈ acc, ∃ i : Int, p = .int i) → acc.length + ds.length ≤ 1000 →
    ∃ c' t' acc' X' Y' Z', way acc' t0 = some t' ∧ forD (gNm 3) bodyW ds [some c, some t, some (.tup acc), X, Y, Z] = .ok (.nx, [some c', some t', some (.tup acc'), X', Y', Z']) ∧ CupOk c' ∧ (∀ p ∈ acc', ∃ i : Int, p = .int i) ∧ acc'.length ≤ acc.length + ds.length
  | [], n, c, t, acc, X, Y, Z, hc, _, hw, ha, _ => ⟨c, t, acc, X, Y, Z, hw, rfl, hc, ha, by simp⟩
  | d :: ds, n, c, t, acc, X, Y, Z, hc, w, hw, ha, hl => by
    have e := lparts_ok w
    rw [List.length_cons] at hl
    have un : ∀ ρ1, bodyW [some c, some t, some (.tup acc), some d, Y, Z] = .ok (.nx, ρ1) → forD (gNm 3) bodyW (d :: ds) [some c, some t, some (.tup acc), X, Y, Z] = forD (gNm 3) bodyW ds ρ1 := fun ρ1 h => by
      show ((bodyW [some c, some t, some (.tup acc), some d, Y, Z]).bind fun p => match p.1 with
        | .nx => forD (gNm 3) bodyW ds p.2
        | .ct => forD (gNm 3) bodyW ds p.2
        | .bk => .ok (.nx, p.2)
        | .rt d => .ok (.rt d, p.2)) = _
      rw [h] <;> rfl
    generalize hW : within t = W at *
    by_cases h0 : W = []
    · subst h0
      have e1 : bodyW [some c, some t, some (.tup acc), some d, Y, Z] = .ok (.nx, [some c, some t, some (.tup acc), some d, some (.tup []), Z]) := by
        simp [f0_e, put_so, K1_ok, K1_er, f1_e, K2b_ok, K2b_er, K2_ok, K2_er, f2_e, KN_ok, KN_er, fN_e, aNil_e, KAb_ok, KAb_er, KA_ok, KA_er, aCons_e, fvO_so, fv_e, KT_ok, KT_er, tV_e, KNt_ok, KNt_er, tNt_e, KAn_ok, KAn_er, tAn_e, KOr_ok, KOr_er, tOr'_e, KIe_ok, KIe_er, fIf_e, tYs_e, KEa_ok, eAn_e, KEo_ok, eOr_e, KCh3_ok, KCh3_er, KCh2_ok, KChO_so, KCh1_ok, KCh1_er, fCh_e, sNx_e, sBk_e, sCt_e, sRetN_e, sRaise_e, KS_nx, KS_rt, KS_bk, KS_ct, KS_er, sSeq_e, KIf_ok, KIf_er, sIf_e, KG_ok, KG_er, sAsg_e, nxt_so, gNm_e, KR_ok, KR_er, sRet_e, KD_ok, KD_er, sDrop_e, KP_ok, sPar_e, KF_ok, KF_er, sFor_e, KOw_ok, KOw_er, sOwn_e, KnL_ok, KnL_er, nLst_e, lsO_so, lstAt_e, KoIo_so, KoI_ok, oIx_e, KoL_so, oLen_e, KoAo_so, KoA_ok, KoA_er, oApp_e, KoEo_so, KoE_ok, oExt_e, KsIo2_so, KsIo_so, KsI2_ok, KsI_ok, KsI_er, sSetI_e, KC2_ok, KC2_er, KC_ok, KC_er, fCall_e, KI2_ok, KIo_so, KI_ok, fCallIo_e, KnC2_ok, KnC_ok, KnC_er, nCall_e, KsQ_t, KsQ_l, KsQ_f, iSeq_e, KsE_t, KsE_l, iEn_e, KR1_ok, iRn1_e, KL_ok, KL_er, lstE_e, Kc1_ok, Kc1_er, compN_e, Kc2_ok, Kc2_er, compN2_e, fitL_so, KoP_ok, oPt_e, oNo_e, Ksl3_ok, Ksl3_er, Ksl2_ok, Ksl2_er, Ksl1_ok, Ksl1_er, fSl_e, KTy_ok, KTy_er, sTry_e, KB_rt, KB_nx, KB_er, runB_e, outs_nil, outs_0, gsNil_e, gsCons_e, gTp_t, bodyW, e, gLen, gt_s]
      rw [un _ e1]
      obtain ⟨c', t', acc', X', Y', Z', q0, q1, q2, q3, q4⟩ := path_loop (n := n) ds n c t acc (some d) (some (.tup [])) Z hc w hw ha (by omega)
      exact ⟨c', t', acc', X', Y', Z', q0, q1, q2, q3, by rw [List.length_cons]; omega⟩
    · have p0 : 0 < W.length := List.length_pos_iff.mpr h0
      have l2 : W.length ≤ 2 := by rw [← hW]; exact (parts_ok w.nice_ w.good_).2.2.2
      obtain ⟨r, c1, e1, r0, r1, hc1⟩ := roll_ok (W.length : Int) hc (by omega)
      have e2 := ix_in (ws := W) (k := r) ⟨r0, r1⟩
      have lt : r.toNat < W.length := by omega
      rw [List.getElem?_eq_getElem lt] at e2
      have m : W[r.toNat] ∈ within t := by rw [hW]; exact List.getElem_mem _
      have wk := w.kid m
      have e3 : gAdd (.tup acc) (.tup [.int r]) = some (.tup (acc ++ [.int r])) := ta (by simp; omega)
      have d0 : decide ((0 : Int) < (W.length : Int)) = true := decide_eq_true (by omega)
      have e4 : bodyW [some c, some t, some (.tup acc), some d, Y, Z] = .ok (.nx, [some c1, some W[r.toNat], some (.tup (acc ++ [.int r])), some d, some (.tup W), some (.int r)]) := by
        generalize W[r.toNat] = K at *
        simp only [f0_e, put_so, K1_ok, K1_er, f1_e, K2b_ok, K2b_er, K2_ok, K2_er, f2_e, KN_ok, KN_er, fN_e, aNil_e, KAb_ok, KAb_er, KA_ok, KA_er, aCons_e, fvO_so, fv_e, KT_ok, KT_er, tV_e, KNt_ok, KNt_er, tNt_e, KAn_ok, KAn_er, tAn_e, KOr_ok, KOr_er, tOr'_e, KIe_ok, KIe_er, fIf_e, tYs_e, KEa_ok, eAn_e, KEo_ok, eOr_e, KCh3_ok, KCh3_er, KCh2_ok, KChO_so, KCh1_ok, KCh1_er, fCh_e, sNx_e, sBk_e, sCt_e, sRetN_e, sRaise_e, KS_nx, KS_rt, KS_bk, KS_ct, KS_er, sSeq_e, KIf_ok, KIf_er, sIf_e, KG_ok, KG_er, sAsg_e, nxt_so, gNm_e, KR_ok, KR_er, sRet_e, KD_ok, KD_er, sDrop_e, KP_ok, sPar_e, KF_ok, KF_er, sFor_e, KOw_ok, KOw_er, sOwn_e, KnL_ok, KnL_er, nLst_e, lsO_so, lstAt_e, KoIo_so, KoI_ok, oIx_e, KoL_so, oLen_e, KoAo_so, KoA_ok, KoA_er, oApp_e, KoEo_so, KoE_ok, oExt_e, KsIo2_so, KsIo_so, KsI2_ok, KsI_ok, KsI_er, sSetI_e, KC2_ok, KC2_er, KC_ok, KC_er, fCall_e, KI2_ok, KIo_so, KI_ok, fCallIo_e, KnC2_ok, KnC_ok, KnC_er, nCall_e, KsQ_t, KsQ_l, KsQ_f, iSeq_e, KsE_t, KsE_l, iEn_e, KR1_ok, iRn1_e, KL_ok, KL_er, lstE_e, Kc1_ok, Kc1_er, compN_e, Kc2_ok, Kc2_er, compN2_e, fitL_so, KoP_ok, oPt_e, oNo_e, Ksl3_ok, Ksl3_er, Ksl2_ok, Ksl2_er, Ksl1_ok, Ksl1_er, fSl_e, KTy_ok, KTy_er, sTry_e, KB_rt, KB_nx, KB_er, runB_e, outs_nil, outs_0, gsNil_e, gsCons_e, gTp_t, bodyW, e, gLen, gt_s, d0, e1, e2, e3, gt_1, List.getElem?_cons_succ, List.getElem?_cons_zero, List.set_cons_succ, List.set_cons_zero, if_true]
      rw [un _ e4]
      have hw2 : way (acc ++ [.int r]) t0 = some W[r.toNat] := by
        rw [way_snoc acc t0 t (.int r) hw]
        show stepW (within t) (.int r) = _
        rw [hW]
        show (if 0 ≤ r ∧ r < (W.length : Int) then W[r.toNat]? else none) = _
        rw [if_pos ⟨r0, r1⟩, List.getElem?_eq_getElem lt]
      obtain ⟨c', t', acc', X', Y', Z', q0, q1, q2, q3, q4⟩ := path_loop (n := n) ds (n - 1) c1 _ (acc ++ [.int r]) (some d) (some (.tup W)) (some (.int r)) hc1 wk hw2 (fun p mp => by
        rcases List.mem_append.mp mp with z | z
        · exact ha p z
        · exact ⟨r, List.mem_singleton.mp z⟩) (by rw [List.length_append, List.length_singleton]; omega)
      exact ⟨c', t', acc', X', Y', Z', q0, q1, q2, q3, by rw [List.length_append, List.length_singleton] at q4; rw [List.length_cons]; omega⟩
theorem path_ok {n : Nat} {c t : D} (hc : CupOk c) (w : WF n t) : ∃ ps c', F__law_path [c, t] = .ok (.tup ps, [some c']) ∧ CupOk c' ∧ (∀ p ∈ ps, ∃ i : Int, p = .int i) ∧ ps.length ≤ 4 ∧ way ps t ≠ none := by
  obtain ⟨r, c1, e1, r0, r1, hc1⟩ := roll_ok 5 hc (by omega)
  have ro : rngOk r = true := by
    unfold rngOk
    rw [Bool.and_eq_true]
    exact ⟨decide_eq_true (by omega), decide_eq_true (by omega)⟩
  obtain ⟨R, hR⟩ : ∃ R, rngD 0 r = R := ⟨_, rfl⟩
  have l : R.length ≤ 4 := by
    rw [← hR]
    unfold rngD
    rw [List.length_map, List.length_range]
    omega
  obtain ⟨c', t', acc', X', Y', Z', q0, q1, q2, q3, q4⟩ := path_loop (n := n) (t0 := t) R n c1 t [] none none none hc1 w rfl (fun p m => (nomatch m)) (by simp; omega)
  refine ⟨acc', c', ?_, q2, q3, by simp at q4; omega, by rw [q0]; exact fun z => by cases z⟩
  have e5 : F__law_path [c, t] = KB [0] (d__law_path [some c, some t, none, none, none, none]) := by
    unfold F__law_path
    rw [runB_e] <;> rfl
  have e6 : d__law_path = sSeq (sAsg (fN gTup aNil) (gNm 2)) (sSeq (sFor (iRn1 (aCons (fCallIo 0 F__law_roll (aCons (f0 (.int 5)) aNil)) aNil)) (gNm 3) bodyW) (sRet (fv 2))) := rfl
  rw [e5, e6]
  generalize bodyW = B at *
  simp only [f0_e, put_so, K1_ok, K1_er, f1_e, K2b_ok, K2b_er, K2_ok, K2_er, f2_e, KN_ok, KN_er, fN_e, aNil_e, KAb_ok, KAb_er, KA_ok, KA_er, aCons_e, fvO_so, fv_e, KT_ok, KT_er, tV_e, KNt_ok, KNt_er, tNt_e, KAn_ok, KAn_er, tAn_e, KOr_ok, KOr_er, tOr'_e, KIe_ok, KIe_er, fIf_e, tYs_e, KEa_ok, eAn_e, KEo_ok, eOr_e, KCh3_ok, KCh3_er, KCh2_ok, KChO_so, KCh1_ok, KCh1_er, fCh_e, sNx_e, sBk_e, sCt_e, sRetN_e, sRaise_e, KS_nx, KS_rt, KS_bk, KS_ct, KS_er, sSeq_e, KIf_ok, KIf_er, sIf_e, KG_ok, KG_er, sAsg_e, nxt_so, gNm_e, KR_ok, KR_er, sRet_e, KD_ok, KD_er, sDrop_e, KP_ok, sPar_e, KF_ok, KF_er, sFor_e, KOw_ok, KOw_er, sOwn_e, KnL_ok, KnL_er, nLst_e, lsO_so, lstAt_e, KoIo_so, KoI_ok, oIx_e, KoL_so, oLen_e, KoAo_so, KoA_ok, KoA_er, oApp_e, KoEo_so, KoE_ok, oExt_e, KsIo2_so, KsIo_so, KsI2_ok, KsI_ok, KsI_er, sSetI_e, KC2_ok, KC2_er, KC_ok, KC_er, fCall_e, KI2_ok, KIo_so, KI_ok, fCallIo_e, KnC2_ok, KnC_ok, KnC_er, nCall_e, KsQ_t, KsQ_l, KsQ_f, iSeq_e, KsE_t, KsE_l, iEn_e, KR1_ok, iRn1_e, KL_ok, KL_er, lstE_e, Kc1_ok, Kc1_er, compN_e, Kc2_ok, Kc2_er, compN2_e, fitL_so, KoP_ok, oPt_e, oNo_e, Ksl3_ok, Ksl3_er, Ksl2_ok, Ksl2_er, Ksl1_ok, Ksl1_er, fSl_e, KTy_ok, KTy_er, sTry_e, KB_rt, KB_nx, KB_er, runB_e, outs_nil, outs_0, gsNil_e, gsCons_e, gTp_t, e1, ro, hR, q1, gt_0, List.getElem?_cons_succ, List.getElem?_cons_zero, List.set_cons_succ, List.set_cons_zero, if_true]
/-! ### odd things -/
theorem odd_ok {c : D} (hc : CupOk c) : ∃ d c', F__law_odd [c] = .ok (d, [some c']) ∧ nice d = true ∧ good d = false ∧ CupOk c' := by
  let xs : List D := [.non, .int 3, .bl true, .tup [], .str "x", .lst [.str "x"], .tup [.str "x", .int 1], .tup [.str "y"], .tup [.str "whole", .int (-1)], .tup [.str "whole", .int 1000001], .tup [.str "whole", .bl true], .tup [.str "whole"],
    .tup [.str "negative"], .tup [.str "plus", .tup [.str "x"]], .tup [.str "power", .tup [.str "x"], .int 13], .tup [.str "power", .tup [.str "x"], .int (-1)], .tup [.str "power", .tup [.str "x"], .bl true],
    .tup [.str "power", .tup [.str "x"]], .tup [.str "log", .tup [.str "x"], .int 1], .tup [.str "x", .tup [.str "x"]], .tup [.str "times", .tup [.str "x"], .tup [.str "x"], .tup [.str "x"]], .tup [.tup [.str "x"]]]
  obtain ⟨d, c', e, m, hc'⟩ := some_ok (xs := xs) hc (by simp [xs]) (by simp [xs])
  have nx : niceAll xs = true := by kernel_rfl
  have gx : xs.all (fun d => !good d) = true := by kernel_rfl
  have gd := List.all_eq_true.mp gx d m
  refine ⟨d, c', ?_, niceAll_mem nx d m, by simpa using gd, hc'⟩
  have e1 : F__law_odd [c] = KB [0] (KS sNx (.ok (.nx, []))) ∨ True := .inr trivial
  have e2 : F__law_odd [c] = KB [0] (sRet (fCallIo 0 F__law_some (aCons (fv 1) aNil)) [some c, some (.lst xs)]) := by kernel_rfl
  rw [e2]
  clear_value xs
  simp only [f0_e, put_so, K1_ok, K1_er, f1_e, K2b_ok, K2b_er, K2_ok, K2_er, f2_e, KN_ok, KN_er, fN_e, aNil_e, KAb_ok, KAb_er, KA_ok, KA_er, aCons_e, fvO_so, fv_e, KT_ok, KT_er, tV_e, KNt_ok, KNt_er, tNt_e, KAn_ok, KAn_er, tAn_e, KOr_ok, KOr_er, tOr'_e, KIe_ok, KIe_er, fIf_e, tYs_e, KEa_ok, eAn_e, KEo_ok, eOr_e, KCh3_ok, KCh3_er, KCh2_ok, KChO_so, KCh1_ok, KCh1_er, fCh_e, sNx_e, sBk_e, sCt_e, sRetN_e, sRaise_e, KS_nx, KS_rt, KS_bk, KS_ct, KS_er, sSeq_e, KIf_ok, KIf_er, sIf_e, KG_ok, KG_er, sAsg_e, nxt_so, gNm_e, KR_ok, KR_er, sRet_e, KD_ok, KD_er, sDrop_e, KP_ok, sPar_e, KF_ok, KF_er, sFor_e, KOw_ok, KOw_er, sOwn_e, KnL_ok, KnL_er, nLst_e, lsO_so, lstAt_e, KoIo_so, KoI_ok, oIx_e, KoL_so, oLen_e, KoAo_so, KoA_ok, KoA_er, oApp_e, KoEo_so, KoE_ok, oExt_e, KsIo2_so, KsIo_so, KsI2_ok, KsI_ok, KsI_er, sSetI_e, KC2_ok, KC2_er, KC_ok, KC_er, fCall_e, KI2_ok, KIo_so, KI_ok, fCallIo_e, KnC2_ok, KnC_ok, KnC_er, nCall_e, KsQ_t, KsQ_l, KsQ_f, iSeq_e, KsE_t, KsE_l, iEn_e, KR1_ok, iRn1_e, KL_ok, KL_er, lstE_e, Kc1_ok, Kc1_er, compN_e, Kc2_ok, Kc2_er, compN2_e, fitL_so, KoP_ok, oPt_e, oNo_e, Ksl3_ok, Ksl3_er, Ksl2_ok, Ksl2_er, Ksl1_ok, Ksl1_er, fSl_e, KTy_ok, KTy_er, sTry_e, KB_rt, KB_nx, KB_er, runB_e, outs_nil, outs_0, gsNil_e, gsCons_e, gTp_t, e, List.getElem?_cons_succ, List.getElem?_cons_zero, List.set_cons_succ, List.set_cons_zero]
end Q68
set_option maxHeartbeats 4000000
namespace Q68
open PySem PySem.Spec Pl
theorem cup_ok (ns : List Int) (h : ns.length ≤ 63) : ∃ a b : Int, F__law_cup [.fl (ns.map D.int)] = some [.int a, .int b] ∧ CupOk (Cup a b) := by
  obtain ⟨x, hx⟩ : ∃ x : Int, L2.atI (ns.map D.int ++ [D.int 0]) 0 = some (.int x) := by
    cases ns with
    | nil => exact ⟨0, rfl⟩
    | cons n r =>
      refine ⟨n, ?_⟩
      show L2.atI (.int n :: (r.map D.int ++ [D.int 0])) 0 = _
      unfold L2.atI L2.ixN
      rw [if_pos (by omega), if_pos (by simp; omega)]
      rfl
  have e1 : gAdd (.lst (ns.map D.int)) (.lst [.int 0]) = some (.lst (ns.map D.int ++ [D.int 0])) := by
    have l : lnOk ((ns.map D.int).length + 1) = true := lnOk_of (by rw [List.length_map]; omega)
    show (if lnOk ((ns.map D.int).length + 1) = true then _ else _) = _
    rw [if_pos l]
  have e2 := glst1 (.int 0)
  let y : Int := if x < 0 then -x else x
  have y0 : 0 ≤ y := by
    show 0 ≤ (if x < 0 then -x else x)
    split <;> omega
  have e3 : gAbs [.int x] = some (.int y) := rfl
  have e4 : gPow (.int 10) (.int 18) = some (.int 1000000000000000000) := by kernel_rfl
  have e5 : gDiv (.int y) (.int 67) = some (.int (y / 67)) := div_s (by omega)
  have e6 : gMul (.int y) (.int 277) = some (.int (y * 277)) := mul_r (by omega)
  have e7 : gMod (.int (y * 277 + 2609)) (.int 2077503167) = some (.int ((y * 277 + 2609) % 2077503167)) := mod_s (by omega)
  clear_value y
  have m0 : 0 ≤ (y * 277 + 2609) % 2077503167 := Int.emod_nonneg _ (by omega)
  have m1 : (y * 277 + 2609) % 2077503167 < 2077503167 := Int.emod_lt_of_pos _ (by omega)
  have l2 : lnOk 2 = true := lnOk_of (by omega)
  have d0 : F__law_cup [.fl (ns.map D.int)] = (match d__law_cup [some (.fl (ns.map D.int)), none] with
    | .ok (.nx, ρ) => (match e__law_cup ρ with | .ok q => some q.1 | _ => none)
    | _ => none) := by
    unfold F__law_cup Pl.runN
    rfl
  have d1 : d__law_cup [some (.fl (ns.map D.int)), none] = .ok (.nx, [some (.fl (ns.map D.int)), some (.int y)]) := by
    generalize ns.map D.int = L at *
    simp only [f0_e, put_so, K1_ok, K1_er, f1_e, K2b_ok, K2b_er, K2_ok, K2_er, f2_e, KN_ok, KN_er, fN_e, aNil_e, KAb_ok, KAb_er, KA_ok, KA_er, aCons_e, fvO_so, fv_e, KT_ok, KT_er, tV_e, KNt_ok, KNt_er, tNt_e, KAn_ok, KAn_er, tAn_e, KOr_ok, KOr_er, tOr'_e, KIe_ok, KIe_er, fIf_e, tYs_e, KEa_ok, eAn_e, KEo_ok, eOr_e, KCh3_ok, KCh3_er, KCh2_ok, KChO_so, KCh1_ok, KCh1_er, fCh_e, sNx_e, sBk_e, sCt_e, sRetN_e, sRaise_e, KS_nx, KS_rt, KS_bk, KS_ct, KS_er, sSeq_e, KIf_ok, KIf_er, sIf_e, KG_ok, KG_er, sAsg_e, nxt_so, gNm_e, KR_ok, KR_er, sRet_e, KD_ok, KD_er, sDrop_e, KP_ok, sPar_e, KF_ok, KF_er, sFor_e, KOw_ok, KOw_er, sOwn_e, KnL_ok, KnL_er, nLst_e, lsO_so, lstAt_e, KoIo_so, KoI_ok, oIx_e, KoL_so, oLen_e, KoAo_so, KoA_ok, KoA_er, oApp_e, KoEo_so, KoE_ok, oExt_e, KsIo2_so, KsIo_so, KsI2_ok, KsI_ok, KsI_er, sSetI_e, KC2_ok, KC2_er, KC_ok, KC_er, fCall_e, KI2_ok, KIo_so, KI_ok, fCallIo_e, KnC2_ok, KnC_ok, KnC_er, nCall_e, KsQ_t, KsQ_l, KsQ_f, iSeq_e, KsE_t, KsE_l, iEn_e, KR1_ok, iRn1_e, KL_ok, KL_er, lstE_e, Kc1_ok, Kc1_er, compN_e, Kc2_ok, Kc2_er, compN2_e, fitL_so, KoP_ok, oPt_e, oNo_e, Ksl3_ok, Ksl3_er, Ksl2_ok, Ksl2_er, Ksl1_ok, Ksl1_er, fSl_e, KTy_ok, KTy_er, sTry_e, KB_rt, KB_nx, KB_er, runB_e, outs_nil, outs_0, gsNil_e, gsCons_e, gTp_t, d__law_cup, gLstOf, e1, e2, e3, gIx, hx, List.getElem?_cons_succ, List.getElem?_cons_zero, List.set_cons_succ, List.set_cons_zero]
  rw [d0, d1]
  by_cases hb : (1000000000000000000 : Int) ≤ y
  · have db : decide ((1000000000000000000 : Int) ≤ y) = true := decide_eq_true hb
    have d2 : e__law_cup [some (.fl (ns.map D.int)), some (.int y)] = .ok ([.int (y / 67), .int ((y * 277 + 2609) % 2077503167 + 163)], [some (.fl (ns.map D.int)), some (.int y)]) := by
      simp only [f0_e, put_so, K1_ok, K1_er, f1_e, K2b_ok, K2b_er, K2_ok, K2_er, f2_e, KN_ok, KN_er, fN_e, aNil_e, KAb_ok, KAb_er, KA_ok, KA_er, aCons_e, fvO_so, fv_e, KT_ok, KT_er, tV_e, KNt_ok, KNt_er, tNt_e, KAn_ok, KAn_er, tAn_e, KOr_ok, KOr_er, tOr'_e, KIe_ok, KIe_er, fIf_e, tYs_e, KEa_ok, eAn_e, KEo_ok, eOr_e, KCh3_ok, KCh3_er, KCh2_ok, KChO_so, KCh1_ok, KCh1_er, fCh_e, sNx_e, sBk_e, sCt_e, sRetN_e, sRaise_e, KS_nx, KS_rt, KS_bk, KS_ct, KS_er, sSeq_e, KIf_ok, KIf_er, sIf_e, KG_ok, KG_er, sAsg_e, nxt_so, gNm_e, KR_ok, KR_er, sRet_e, KD_ok, KD_er, sDrop_e, KP_ok, sPar_e, KF_ok, KF_er, sFor_e, KOw_ok, KOw_er, sOwn_e, KnL_ok, KnL_er, nLst_e, lsO_so, lstAt_e, KoIo_so, KoI_ok, oIx_e, KoL_so, oLen_e, KoAo_so, KoA_ok, KoA_er, oApp_e, KoEo_so, KoE_ok, oExt_e, KsIo2_so, KsIo_so, KsI2_ok, KsI_ok, KsI_er, sSetI_e, KC2_ok, KC2_er, KC_ok, KC_er, fCall_e, KI2_ok, KIo_so, KI_ok, fCallIo_e, KnC2_ok, KnC_ok, KnC_er, nCall_e, KsQ_t, KsQ_l, KsQ_f, iSeq_e, KsE_t, KsE_l, iEn_e, KR1_ok, iRn1_e, KL_ok, KL_er, lstE_e, Kc1_ok, Kc1_er, compN_e, Kc2_ok, Kc2_er, compN2_e, fitL_so, KoP_ok, oPt_e, oNo_e, Ksl3_ok, Ksl3_er, Ksl2_ok, Ksl2_er, Ksl1_ok, Ksl1_er, fSl_e, KTy_ok, KTy_er, sTry_e, KB_rt, KB_nx, KB_er, runB_e, outs_nil, outs_0, gsNil_e, gsCons_e, gTp_t, e__law_cup, ge_s, e4, e5, e6, e7, db, add_s, int_s, l2, List.getElem?_cons_succ, List.getElem?_cons_zero, List.length_cons, List.length_nil, Nat.reduceAdd, if_true]
    exact ⟨y / 67, _, by show (match e__law_cup [some (.fl (ns.map D.int)), some (.int y)] with | .ok q => some q.1 | _ => none) = _; rw [d2], _, _, rfl, Int.ediv_nonneg y0 (by omega), by omega, by omega⟩
  · have db : decide ((1000000000000000000 : Int) ≤ y) = false := decide_eq_false hb
    have d2 : e__law_cup [some (.fl (ns.map D.int)), some (.int y)] = .ok ([.int 0, .int ((y * 277 + 2609) % 2077503167 + 163)], [some (.fl (ns.map D.int)), some (.int y)]) := by
      simp only [f0_e, put_so, K1_ok, K1_er, f1_e, K2b_ok, K2b_er, K2_ok, K2_er, f2_e, KN_ok, KN_er, fN_e, aNil_e, KAb_ok, KAb_er, KA_ok, KA_er, aCons_e, fvO_so, fv_e, KT_ok, KT_er, tV_e, KNt_ok, KNt_er, tNt_e, KAn_ok, KAn_er, tAn_e, KOr_ok, KOr_er, tOr'_e, KIe_ok, KIe_er, fIf_e, tYs_e, KEa_ok, eAn_e, KEo_ok, eOr_e, KCh3_ok, KCh3_er, KCh2_ok, KChO_so, KCh1_ok, KCh1_er, fCh_e, sNx_e, sBk_e, sCt_e, sRetN_e, sRaise_e, KS_nx, KS_rt, KS_bk, KS_ct, KS_er, sSeq_e, KIf_ok, KIf_er, sIf_e, KG_ok, KG_er, sAsg_e, nxt_so, gNm_e, KR_ok, KR_er, sRet_e, KD_ok, KD_er, sDrop_e, KP_ok, sPar_e, KF_ok, KF_er, sFor_e, KOw_ok, KOw_er, sOwn_e, KnL_ok, KnL_er, nLst_e, lsO_so, lstAt_e, KoIo_so, KoI_ok, oIx_e, KoL_so, oLen_e, KoAo_so, KoA_ok, KoA_er, oApp_e, KoEo_so, KoE_ok, oExt_e, KsIo2_so, KsIo_so, KsI2_ok, KsI_ok, KsI_er, sSetI_e, KC2_ok, KC2_er, KC_ok, KC_er, fCall_e, KI2_ok, KIo_so, KI_ok, fCallIo_e, KnC2_ok, KnC_ok, KnC_er, nCall_e, KsQ_t, KsQ_l, KsQ_f, iSeq_e, KsE_t, KsE_l, iEn_e, KR1_ok, iRn1_e, KL_ok, KL_er, lstE_e, Kc1_ok, Kc1_er, compN_e, Kc2_ok, Kc2_er, compN2_e, fitL_so, KoP_ok, oPt_e, oNo_e, Ksl3_ok, Ksl3_er, Ksl2_ok, Ksl2_er, Ksl1_ok, Ksl1_er, fSl_e, KTy_ok, KTy_er, sTry_e, KB_rt, KB_nx, KB_er, runB_e, outs_nil, outs_0, gsNil_e, gsCons_e, gTp_t, e__law_cup, ge_s, e4, e6, e7, db, add_s, int_s, l2, List.getElem?_cons_succ, List.getElem?_cons_zero, List.length_cons, List.length_nil, Nat.reduceAdd, if_true, Bool.false_eq_true, if_false]
    exact ⟨0, _, by show (match e__law_cup [some (.fl (ns.map D.int)), some (.int y)] with | .ok q => some q.1 | _ => none) = _; rw [d2], _, _, rfl, by omega, by omega, by omega⟩
theorem cnt_mono : ∀ {n m : Nat} {d : D}, WF n d → n ≤ m → cnt m d = cnt n d
  | 0, _, _, h, _ => h.elim
  | n + 1, 0, _, _, l => by omega
  | n + 1, m + 1, d, h, l => by
    show 1 + ((within d).map (cnt m)).sum = 1 + ((within d).map (cnt n)).sum
    congr 2
    exact List.map_congr_left fun p q => cnt_mono (h.2.2 p q) (by omega)
end Q68
set_option maxHeartbeats 4000000
namespace Q68
open PySem PySem.Spec Pl
/-! ### a part put in -/
def Ints (ps : List D) : Prop := ∀ p ∈ ps, ∃ i : Int, p = .int i
theorem Ints.tl {p : D} {ps : List D} (h : Ints (p :: ps)) : Ints ps := fun q m => h q (List.mem_cons_of_mem _ m)
theorem ints_flat : ∀ {ps : List D}, Ints ps → flatAll ps = true ∧ PyData.canLayAll0 (toPyAll ps) = true ∧ PyData.depthAll (toPyAll ps) = 0
  | [], _ => ⟨rfl, rfl, rfl⟩
  | p :: ps, h => by
    obtain ⟨i, rfl⟩ := h p (List.mem_cons_self ..)
    obtain ⟨h1, h2, h3⟩ := ints_flat h.tl
    refine ⟨?_, ?_, ?_⟩
    · show (true && flatAll ps) = true
      rw [h1] <;> rfl
    · show (true && PyData.canLayAll0 (toPyAll ps)) = true
      rw [h2] <;> rfl
    · show max 0 (PyData.depthAll (toPyAll ps)) = 0
      rw [h3] <;> rfl
theorem path_eq {ps : List D} (h : Ints ps) : gEq (.tup ps) (.tup []) = some (.bl ps.isEmpty) := by
  obtain ⟨h1, h2, h3⟩ := ints_flat h
  have hc : cmpOk (.tup ps) = true := by
    show (flatAll ps && (PyData.canLayAll0 (toPyAll ps) && decide (PyData.depthAll (toPyAll ps) + 1 ≤ 64))) = true
    rw [h1, h2, h3] <;> rfl
  show (if (cmpOk (.tup ps) && cmpOk (.tup [])) = true then some (D.bl (PyData.eqvAll (toPyAll ps) [])) else none) = _
  rw [hc, if_pos (by rfl)]
  cases ps <;> rfl
/-- no term -/
def Bad (d : D) : Prop := ∀ n, ¬ WF n d
abbrev putT : GD := (gTp 2 (gsCons (gNm 4) (gsCons (gNm 5) gsNil)))
abbrev putE (R : FD) : ED := (fIf (tV (f2 gEq (fv 4) (f2 gIx (fv 1) (f0 (.int 0))))) (fCall R (aCons (fv 5) (aCons (fSl (fv 1) (oPt (f0 (.int 1))) oNo) (aCons (fv 2) aNil)))) (fv 5))
theorem sl_tl {q : Int} {tl : List D} : gSl (.tup (.int q :: tl)) (some 1) none = some (.tup tl) := by
  show some (D.tup (cutG (.int q :: tl) (some 1) none)) = _
  have h1 : HT.sIx (D.int q :: tl).length 0 (some 1) = 1 := by
    show (if (1 : Int) < 0 then ((1 : Int) + ((tl.length + 1 : Nat) : Int)).toNat else min (1 : Int).toNat (tl.length + 1)) = 1
    rw [if_neg (by omega)]
    show min 1 (tl.length + 1) = 1
    omega
  have h2 : HT.sIx (D.int q :: tl).length (D.int q :: tl).length none = tl.length + 1 := rfl
  unfold cutG
  rw [h1, h2]
  show some (D.tup (tl.take (tl.length + 1 - 1))) = _
  rw [Nat.add_sub_cancel, List.take_length]
theorem put_loop {d val X : D} {q : Int} {tl : List D} {R : FD} {Z : Option D} : ∀ (L : List D) (k : Nat), (∀ p ∈ L, nice p = true ∧ ∃ e, R [p, .tup tl, val] = .ok (e, []) ∧ nice e = true ∧ (way tl p ≠ none → Bad e)) →
    ∃ es, loopC putT tYs (putE R) [4, 5] (enD k L) [some d, some (.tup (.int q :: tl)), some val, Z, none, none] = some (es, [some d, some (.tup (.int q :: tl)), some val, Z, none, none]) ∧ es.length = L.length ∧ (∀ e ∈ es, nice e = true) ∧ ∀ (j : Nat) (p : D), L[j]? = some p → ((k + j : Nat) : Int) = q → way tl p ≠ none → ∃ e ∈ es, Bad e
  | [], _, _ => ⟨[], rfl, rfl, fun e m => (nomatch m), fun j p h => by simp at h⟩
  | p :: L, k, h => by
    obtain ⟨es, e1, e2, e3, e4⟩ := put_loop (d := d) (X := X) (q := q) (Z := Z) L (k + 1) fun x m => h x (List.mem_cons_of_mem _ m)
    obtain ⟨np, e, re, nce, bde⟩ := h p (List.mem_cons_self ..)
    have st : ∃ w, putE R [some d, some (.tup (.int q :: tl)), some val, Z, some (.int (k : Nat)), some p] = .ok (w, [some d, some (.tup (.int q :: tl)), some val, Z, some (.int (k : Nat)), some p]) ∧ nice w = true ∧ (((k : Nat) : Int) = q → way tl p ≠ none → Bad w) := by
      have g : gIx (.tup (.int q :: tl)) (.int 0) = some (.int q) := by
        rw [ix_in ⟨by omega, by simp only [List.length_cons]; omega⟩] <;> rfl
      by_cases hk : ((k : Nat) : Int) = q
      · have c : gEq (.int (k : Nat)) (.int q) = some (.bl true) := by
          rw [eq_ii]
          congr 2
          exact beq_iff_eq.mpr hk
        exact ⟨e, by simp only [f0_e, put_so, K1_ok, K1_er, f1_e, K2b_ok, K2b_er, K2_ok, K2_er, f2_e, KN_ok, KN_er, fN_e, aNil_e, KAb_ok, KAb_er, KA_ok, KA_er, aCons_e, fvO_so, fv_e, KT_ok, KT_er, tV_e, KNt_ok, KNt_er, tNt_e, KAn_ok, KAn_er, tAn_e, KOr_ok, KOr_er, tOr'_e, KIe_ok, KIe_er, fIf_e, tYs_e, KEa_ok, eAn_e, KEo_ok, eOr_e, KCh3_ok, KCh3_er, KCh2_ok, KChO_so, KCh1_ok, KCh1_er, fCh_e, sNx_e, sBk_e, sCt_e, sRetN_e, sRaise_e, KS_nx, KS_rt, KS_bk, KS_ct, KS_er, sSeq_e, KIf_ok, KIf_er, sIf_e, KG_ok, KG_er, sAsg_e, nxt_so, gNm_e, KR_ok, KR_er, sRet_e, KD_ok, KD_er, sDrop_e, KP_ok, sPar_e, KF_ok, KF_er, sFor_e, KOw_ok, KOw_er, sOwn_e, KnL_ok, KnL_er, nLst_e, lsO_so, lstAt_e, KoIo_so, KoI_ok, oIx_e, KoL_so, oLen_e, KoAo_so, KoA_ok, KoA_er, oApp_e, KoEo_so, KoE_ok, oExt_e, KsIo2_so, KsIo_so, KsI2_ok, KsI_ok, KsI_er, sSetI_e, KC2_ok, KC2_er, KC_ok, KC_er, fCall_e, KI2_ok, KIo_so, KI_ok, fCallIo_e, KnC2_ok, KnC_ok, KnC_er, nCall_e, KsQ_t, KsQ_l, KsQ_f, iSeq_e, KsE_t, KsE_l, iEn_e, KR1_ok, iRn1_e, KL_ok, KL_er, lstE_e, Kc1_ok, Kc1_er, compN_e, Kc2_ok, Kc2_er, compN2_e, fitL_so, KoP_ok, oPt_e, oNo_e, Ksl3_ok, Ksl3_er, Ksl2_ok, Ksl2_er, Ksl1_ok, Ksl1_er, fSl_e, KTy_ok, KTy_er, sTry_e, KB_rt, KB_nx, KB_er, runB_e, outs_nil, outs_0, gsNil_e, gsCons_e, gTp_t, putE, g, c, sl_tl, re, List.getElem?_cons_succ, List.getElem?_cons_zero, if_true], nce, fun _ => bde⟩
      · have c : gEq (.int (k : Nat)) (.int q) = some (.bl false) := by
          rw [eq_ii]
          congr 2
          exact beq_eq_false_iff_ne.mpr hk
        exact ⟨p, by simp only [f0_e, put_so, K1_ok, K1_er, f1_e, K2b_ok, K2b_er, K2_ok, K2_er, f2_e, KN_ok, KN_er, fN_e, aNil_e, KAb_ok, KAb_er, KA_ok, KA_er, aCons_e, fvO_so, fv_e, KT_ok, KT_er, tV_e, KNt_ok, KNt_er, tNt_e, KAn_ok, KAn_er, tAn_e, KOr_ok, KOr_er, tOr'_e, KIe_ok, KIe_er, fIf_e, tYs_e, KEa_ok, eAn_e, KEo_ok, eOr_e, KCh3_ok, KCh3_er, KCh2_ok, KChO_so, KCh1_ok, KCh1_er, fCh_e, sNx_e, sBk_e, sCt_e, sRetN_e, sRaise_e, KS_nx, KS_rt, KS_bk, KS_ct, KS_er, sSeq_e, KIf_ok, KIf_er, sIf_e, KG_ok, KG_er, sAsg_e, nxt_so, gNm_e, KR_ok, KR_er, sRet_e, KD_ok, KD_er, sDrop_e, KP_ok, sPar_e, KF_ok, KF_er, sFor_e, KOw_ok, KOw_er, sOwn_e, KnL_ok, KnL_er, nLst_e, lsO_so, lstAt_e, KoIo_so, KoI_ok, oIx_e, KoL_so, oLen_e, KoAo_so, KoA_ok, KoA_er, oApp_e, KoEo_so, KoE_ok, oExt_e, KsIo2_so, KsIo_so, KsI2_ok, KsI_ok, KsI_er, sSetI_e, KC2_ok, KC2_er, KC_ok, KC_er, fCall_e, KI2_ok, KIo_so, KI_ok, fCallIo_e, KnC2_ok, KnC_ok, KnC_er, nCall_e, KsQ_t, KsQ_l, KsQ_f, iSeq_e, KsE_t, KsE_l, iEn_e, KR1_ok, iRn1_e, KL_ok, KL_er, lstE_e, Kc1_ok, Kc1_er, compN_e, Kc2_ok, Kc2_er, compN2_e, fitL_so, KoP_ok, oPt_e, oNo_e, Ksl3_ok, Ksl3_er, Ksl2_ok, Ksl2_er, Ksl1_ok, Ksl1_er, fSl_e, KTy_ok, KTy_er, sTry_e, KB_rt, KB_nx, KB_er, runB_e, outs_nil, outs_0, gsNil_e, gsCons_e, gTp_t, putE, g, c, List.getElem?_cons_succ, List.getElem?_cons_zero, Bool.false_eq_true, if_false], np, fun z => absurd z hk⟩
    obtain ⟨w, ew, nw, bw⟩ := st
    refine ⟨w :: es, ?_, by simp [e2], fun x m => ?_, fun j x hx hj hw => ?_⟩
    · show ((ne (putE R [some d, some (.tup (.int q :: tl)), some val, Z, some (.int (k : Nat)), some p])).bind fun r => (loopC putT tYs (putE R) [4, 5] (enD (k + 1) L) (wipeL r.2 [4, 5])).bind fun z => some (r.1 :: z.1, z.2)) = _
      rw [ew]
      show ((loopC putT tYs (putE R) [4, 5] (enD (k + 1) L) [some d, some (.tup (.int q :: tl)), some val, Z, none, none]).bind fun z => some (w :: z.1, z.2)) = _
      rw [e1] <;> rfl
    · rcases List.mem_cons.mp m with rfl | m
      · exact nw
      · exact e3 x m
    · cases j with
      | zero =>
        have ex : p = x := by simpa using hx
        subst ex
        exact ⟨w, List.mem_cons_self .., bw (by simpa using hj) hw⟩
      | succ j =>
        obtain ⟨e, m, b⟩ := e4 j x (by simpa using hx) (by rw [← hj]; congr 1; omega) hw
        exact ⟨e, List.mem_cons_of_mem _ m, b⟩
theorem put_ok : ∀ (ps : List D) (n m : Nat) (d val : D), Ints ps → ps.length < m → WF n d → nice val = true → Bad val → ∃ e, F__law_put m [d, .tup ps, val] = .ok (e, []) ∧ nice e = true ∧ (way ps d ≠ none → Bad e)
  | _, _, 0, _, _, _, l, _, _, _ => by omega
  | [], n, m + 1, d, val, hp, l, w, hv, hbv => by
    refine ⟨val, ?_, hv, fun _ => hbv⟩
    have e := path_eq hp
    show runB 6 [] (d__law_put (F__law_put m)) [d, .tup [], val] = _
    have e' : gEq (.tup []) (.tup []) = some (.bl true) := e
    generalize F__law_put m = R
    simp [f0_e, put_so, K1_ok, K1_er, f1_e, K2b_ok, K2b_er, K2_ok, K2_er, f2_e, KN_ok, KN_er, fN_e, aNil_e, KAb_ok, KAb_er, KA_ok, KA_er, aCons_e, fvO_so, fv_e, KT_ok, KT_er, tV_e, KNt_ok, KNt_er, tNt_e, KAn_ok, KAn_er, tAn_e, KOr_ok, KOr_er, tOr'_e, KIe_ok, KIe_er, fIf_e, tYs_e, KEa_ok, eAn_e, KEo_ok, eOr_e, KCh3_ok, KCh3_er, KCh2_ok, KChO_so, KCh1_ok, KCh1_er, fCh_e, sNx_e, sBk_e, sCt_e, sRetN_e, sRaise_e, KS_nx, KS_rt, KS_bk, KS_ct, KS_er, sSeq_e, KIf_ok, KIf_er, sIf_e, KG_ok, KG_er, sAsg_e, nxt_so, gNm_e, KR_ok, KR_er, sRet_e, KD_ok, KD_er, sDrop_e, KP_ok, sPar_e, KF_ok, KF_er, sFor_e, KOw_ok, KOw_er, sOwn_e, KnL_ok, KnL_er, nLst_e, lsO_so, lstAt_e, KoIo_so, KoI_ok, oIx_e, KoL_so, oLen_e, KoAo_so, KoA_ok, KoA_er, oApp_e, KoEo_so, KoE_ok, oExt_e, KsIo2_so, KsIo_so, KsI2_ok, KsI_ok, KsI_er, sSetI_e, KC2_ok, KC2_er, KC_ok, KC_er, fCall_e, KI2_ok, KIo_so, KI_ok, fCallIo_e, KnC2_ok, KnC_ok, KnC_er, nCall_e, KsQ_t, KsQ_l, KsQ_f, iSeq_e, KsE_t, KsE_l, iEn_e, KR1_ok, iRn1_e, KL_ok, KL_er, lstE_e, Kc1_ok, Kc1_er, compN_e, Kc2_ok, Kc2_er, compN2_e, fitL_so, KoP_ok, oPt_e, oNo_e, Ksl3_ok, Ksl3_er, Ksl2_ok, Ksl2_er, Ksl1_ok, Ksl1_er, fSl_e, KTy_ok, KTy_er, sTry_e, KB_rt, KB_nx, KB_er, runB_e, outs_nil, outs_0, gsNil_e, gsCons_e, gTp_t, d__law_put, e', gt_0]
  | p :: tl, n, m + 1, d, val, hp, l, w, hv, hbv => by
    obtain ⟨q, rfl⟩ := hp p (List.mem_cons_self ..)
    have e' : gEq (.tup (.int q :: tl)) (.tup []) = some (.bl false) := path_eq hp
    have lp := lparts_ok w
    rw [List.length_cons] at l
    have kids : ∀ p ∈ within d, nice p = true ∧ ∃ e, F__law_put m [p, .tup tl, val] = .ok (e, []) ∧ nice e = true ∧ (way tl p ≠ none → Bad e) := fun p hm => ⟨(w.kid hm).nice_, put_ok tl (n - 1) m p val hp.tl (by omega) (w.kid hm) hv hbv⟩
    obtain ⟨es, e1, e2, e3, e4⟩ := put_loop (d := d) (X := d) (q := q) (Z := none) (within d) 0 kids
    have l2 := (parts_ok w.nice_ w.good_).2.2.2
    have ln : lnOk es.length = true := lnOk_of (by omega)
    have bad : way (.int q :: tl) d ≠ none → ∃ e ∈ es, Bad e := fun hw => by
      have h1 : (step d (.int q)).bind (way tl) ≠ none := hw
      cases hs : step d (.int q) with
      | none => rw [hs] at h1; exact absurd rfl h1
      | some f =>
        rw [hs] at h1
        have h2 : (if 0 ≤ q ∧ q < ((within d).length : Int) then (within d)[q.toNat]? else none) = some f := hs
        split at h2
        · rename_i hq
          exact e4 q.toNat f h2 (by omega) h1
        · cases h2
    have badT : ∀ r, within r = es → way (.int q :: tl) d ≠ none → Bad r := fun r hr hw n hn => by
      obtain ⟨e, m, b⟩ := bad hw
      cases n with
      | zero => exact hn
      | succ n => exact b n (hn.2.2 e (by rw [hr]; exact m))
    show ∃ e, runB 6 [] (d__law_put (F__law_put m)) [d, .tup (.int q :: tl), val] = .ok (e, []) ∧ nice e = true ∧ (way (.int q :: tl) d ≠ none → Bad e)
    generalize F__law_put m = R at *
    have base : ∀ (s : Str) (r : List D) (tail : List D) (o : D), d = .tup (.str s :: r) → fIf (tV (f2 gEq (f2 gIx (fv 0) (f0 (.int 0))) (f0 (.str "power")))) (fN gTup (aCons (f2 gIx (fv 0) (f0 (.int 2))) aNil)) (fN gTup aNil) [some d, some (.tup (.int q :: tl)), some val, some (.lst es), none, none] = .ok (.tup tail, [some d, some (.tup (.int q :: tl)), some val, some (.lst es), none, none]) → tail.length ≤ 1 →
        runB 6 [] (d__law_put R) [d, .tup (.int q :: tl), val] = .ok (.tup (.str s :: (es ++ tail)), []) := fun s r tail o hd ht htl => by
      have g0 : gIx d (.int 0) = some (.str s) := by
        rw [hd, ix_in ⟨by omega, by simp only [List.length_cons]; omega⟩] <;> rfl
      have a1 : gAdd (.tup [.str s]) (.tup es) = some (.tup (.str s :: es)) := ta (by simp only [List.length_cons, List.length_nil]; omega)
      have a2 : gAdd (.tup (.str s :: es)) (.tup tail) = some (.tup (.str s :: (es ++ tail))) := ta (by simp only [List.length_cons]; omega)
      have e5 : runB 6 [] (d__law_put R) [d, .tup (.int q :: tl), val] = KB [] (d__law_put R [some d, some (.tup (.int q :: tl)), some val, none, none, none]) := by
        rw [runB_e] <;> rfl
      rw [e5]
      have e6 : d__law_put R = (sSeq (sIf (tV (f2 gEq (fv 1) (fN gTup aNil))) (sRet (fv 2)) sNx) (sSeq (sAsg (lstE (compN (iEn (fCall F__law_parts (aCons (fv 0) aNil))) putT tYs (putE R) [4, 5])) (gNm 3))
        (sRet (f2 gAdd (f2 gAdd (fN gTup (aCons (f2 gIx (fv 0) (f0 (.int 0))) aNil)) (fN gTupOf (aCons (fv 3) aNil))) (fIf (tV (f2 gEq (f2 gIx (fv 0) (f0 (.int 0))) (f0 (.str "power")))) (fN gTup (aCons (f2 gIx (fv 0) (f0 (.int 2))) aNil)) (fN gTup aNil)))))) := rfl
      rw [e6]
      generalize (fIf (tV (f2 gEq (f2 gIx (fv 0) (f0 (.int 0))) (f0 (.str "power")))) (fN gTup (aCons (f2 gIx (fv 0) (f0 (.int 2))) aNil)) (fN gTup aNil)) = FI at *
      generalize putE R = PE at *
      generalize putT = PT at *
      simp only [f0_e, put_so, K1_ok, K1_er, f1_e, K2b_ok, K2b_er, K2_ok, K2_er, f2_e, KN_ok, KN_er, fN_e, aNil_e, KAb_ok, KAb_er, KA_ok, KA_er, aCons_e, fvO_so, fv_e, KT_ok, KT_er, tV_e, KNt_ok, KNt_er, tNt_e, KAn_ok, KAn_er, tAn_e, KOr_ok, KOr_er, tOr'_e, KIe_ok, KIe_er, fIf_e, tYs_e, KEa_ok, eAn_e, KEo_ok, eOr_e, KCh3_ok, KCh3_er, KCh2_ok, KChO_so, KCh1_ok, KCh1_er, fCh_e, sNx_e, sBk_e, sCt_e, sRetN_e, sRaise_e, KS_nx, KS_rt, KS_bk, KS_ct, KS_er, sSeq_e, KIf_ok, KIf_er, sIf_e, KG_ok, KG_er, sAsg_e, nxt_so, gNm_e, KR_ok, KR_er, sRet_e, KD_ok, KD_er, sDrop_e, KP_ok, sPar_e, KF_ok, KF_er, sFor_e, KOw_ok, KOw_er, sOwn_e, KnL_ok, KnL_er, nLst_e, lsO_so, lstAt_e, KoIo_so, KoI_ok, oIx_e, KoL_so, oLen_e, KoAo_so, KoA_ok, KoA_er, oApp_e, KoEo_so, KoE_ok, oExt_e, KsIo2_so, KsIo_so, KsI2_ok, KsI_ok, KsI_er, sSetI_e, KC2_ok, KC2_er, KC_ok, KC_er, fCall_e, KI2_ok, KIo_so, KI_ok, fCallIo_e, KnC2_ok, KnC_ok, KnC_er, nCall_e, KsQ_t, KsQ_l, KsQ_f, iSeq_e, KsE_t, KsE_l, iEn_e, KR1_ok, iRn1_e, KL_ok, KL_er, lstE_e, Kc1_ok, Kc1_er, compN_e, Kc2_ok, Kc2_er, compN2_e, fitL_so, KoP_ok, oPt_e, oNo_e, Ksl3_ok, Ksl3_er, Ksl2_ok, Ksl2_er, Ksl1_ok, Ksl1_er, fSl_e, KTy_ok, KTy_er, sTry_e, KB_rt, KB_nx, KB_er, runB_e, outs_nil, outs_0, gsNil_e, gsCons_e, gTp_t, e', lp, e1, ln, g0, a1, a2, gt_0, gt_1, gTupOf, ht, wipeL, resL, List.getElem?_cons_succ, List.getElem?_cons_zero, List.set_cons_succ, List.set_cons_zero, if_true, Bool.false_eq_true, if_false, Option.join_some, Option.join_none]
    have other : ∀ (s : Str) (r : List D), d = .tup (.str s :: r) → gEq (.str s) (.str "power") = some (.bl false) → fIf (tV (f2 gEq (f2 gIx (fv 0) (f0 (.int 0))) (f0 (.str "power")))) (fN gTup (aCons (f2 gIx (fv 0) (f0 (.int 2))) aNil)) (fN gTup aNil) [some d, some (.tup (.int q :: tl)), some val, some (.lst es), none, none] = .ok (.tup [], [some d, some (.tup (.int q :: tl)), some val, some (.lst es), none, none]) := fun s r hd hs => by
      have g0 : gIx d (.int 0) = some (.str s) := by
        rw [hd, ix_in ⟨by omega, by simp only [List.length_cons]; omega⟩] <;> rfl
      simp only [f0_e, put_so, K1_ok, K1_er, f1_e, K2b_ok, K2b_er, K2_ok, K2_er, f2_e, KN_ok, KN_er, fN_e, aNil_e, KAb_ok, KAb_er, KA_ok, KA_er, aCons_e, fvO_so, fv_e, KT_ok, KT_er, tV_e, KNt_ok, KNt_er, tNt_e, KAn_ok, KAn_er, tAn_e, KOr_ok, KOr_er, tOr'_e, KIe_ok, KIe_er, fIf_e, tYs_e, KEa_ok, eAn_e, KEo_ok, eOr_e, KCh3_ok, KCh3_er, KCh2_ok, KChO_so, KCh1_ok, KCh1_er, fCh_e, sNx_e, sBk_e, sCt_e, sRetN_e, sRaise_e, KS_nx, KS_rt, KS_bk, KS_ct, KS_er, sSeq_e, KIf_ok, KIf_er, sIf_e, KG_ok, KG_er, sAsg_e, nxt_so, gNm_e, KR_ok, KR_er, sRet_e, KD_ok, KD_er, sDrop_e, KP_ok, sPar_e, KF_ok, KF_er, sFor_e, KOw_ok, KOw_er, sOwn_e, KnL_ok, KnL_er, nLst_e, lsO_so, lstAt_e, KoIo_so, KoI_ok, oIx_e, KoL_so, oLen_e, KoAo_so, KoA_ok, KoA_er, oApp_e, KoEo_so, KoE_ok, oExt_e, KsIo2_so, KsIo_so, KsI2_ok, KsI_ok, KsI_er, sSetI_e, KC2_ok, KC2_er, KC_ok, KC_er, fCall_e, KI2_ok, KIo_so, KI_ok, fCallIo_e, KnC2_ok, KnC_ok, KnC_er, nCall_e, KsQ_t, KsQ_l, KsQ_f, iSeq_e, KsE_t, KsE_l, iEn_e, KR1_ok, iRn1_e, KL_ok, KL_er, lstE_e, Kc1_ok, Kc1_er, compN_e, Kc2_ok, Kc2_er, compN2_e, fitL_so, KoP_ok, oPt_e, oNo_e, Ksl3_ok, Ksl3_er, Ksl2_ok, Ksl2_er, Ksl1_ok, Ksl1_er, fSl_e, KTy_ok, KTy_er, sTry_e, KB_rt, KB_nx, KB_er, runB_e, outs_nil, outs_0, gsNil_e, gsCons_e, gTp_t, g0, hs, gt_0, List.getElem?_cons_succ, List.getElem?_cons_zero, Bool.false_eq_true, if_false]
    have nicer : ∀ (s : Str), NM.contains s = true → ∀ tail, niceAll tail = true → es.length + tail.length ≤ 3 → nice (.tup (.str s :: (es ++ tail))) = true := fun s hs tail ht hl => by
      show (decide ((es ++ tail).length + 1 ≤ 4) && (NM.contains s && niceAll (es ++ tail))) = true
      rw [hs, niceAll_of fun x m => ?_, decide_eq_true (by rw [List.length_append]; omega)]
      · rfl
      · rcases List.mem_append.mp m with z | z
        · exact e3 x z
        · exact niceAll_mem ht x z
    have none0 : within d = [] → way (.int q :: tl) d ≠ none → False := fun h0 hw => by
      obtain ⟨e, m, _⟩ := bad hw
      have : es.length = 0 := by rw [e2, h0]; rfl
      rw [List.length_eq_zero_iff.mp this] at m
      cases m
    have es1 : (within d).length = 1 → ∃ x, es = [x] := fun h => by
      match es, e2 with
      | [x], _ => exact ⟨x, rfl⟩
      | [], z => rw [h] at z; cases z
      | _ :: _ :: _, z => rw [h] at z; simp at z
    have es2 : (within d).length = 2 → ∃ x y, es = [x, y] := fun h => by
      match es, e2 with
      | [x, y], _ => exact ⟨x, y, rfl⟩
      | [], z => rw [h] at z; cases z
      | [_], z => rw [h] at z; simp at z
      | _ :: _ :: _ :: _, z => rw [h] at z; simp at z
    rcases good_cases w.nice_ w.good_ with hd | ⟨i, hd, _, _⟩ | ⟨s, a, hd, hs, ha⟩ | ⟨a, i, hd, _, _, ha⟩ | ⟨s, a, b, hd, hs, ha, hb⟩
    · exact ⟨_, base _ _ [] d hd (other _ _ hd (by kernel_rfl)) (by simp), nicer _ (by kernel_rfl) [] rfl (by simp; omega), fun hw => (none0 (by rw [hd]; kernel_rfl) hw).elim⟩
    · exact ⟨_, base _ _ [] d hd (other _ _ hd (by kernel_rfl)) (by simp), nicer _ (by kernel_rfl) [] rfl (by simp; omega), fun hw => (none0 (by rw [hd]; kernel_rfl) hw).elim⟩
    · obtain ⟨x, ex⟩ := es1 (by rw [hd]; rcases ones_cases hs with rfl | rfl | rfl <;> kernel_rfl)
      rcases ones_cases hs with rfl | rfl | rfl <;> exact ⟨_, base _ _ [] d hd (other _ _ hd (by kernel_rfl)) (by simp), nicer _ (by kernel_rfl) [] rfl (by simp; omega), badT _ (by rw [ex]; kernel_rfl)⟩
    · obtain ⟨x, ex⟩ := es1 (by rw [hd]; kernel_rfl)
      refine ⟨_, base _ _ [.int i] d hd ?_ (by simp), nicer _ (by kernel_rfl) [.int i] rfl (by rw [ex]; simp), badT _ (by rw [ex]; kernel_rfl)⟩
      subst hd
      kernel_rfl
    · obtain ⟨x, y, ex⟩ := es2 (by rw [hd]; rcases pairs_cases hs with rfl | rfl | rfl | rfl <;> kernel_rfl)
      rcases pairs_cases hs with rfl | rfl | rfl | rfl <;> exact ⟨_, base _ _ [] d hd (other _ _ hd (by kernel_rfl)) (by simp), nicer _ (by kernel_rfl) [] rfl (by simp; omega), badT _ (by rw [ex]; kernel_rfl)⟩
end Q68
set_option maxHeartbeats 4000000
namespace Q68
open PySem PySem.Spec Pl
/-! ### what is shown -/
structure Rb (d : D) (N k : Nat) : Prop where
  fl : flat d = true
  sh : (toPy d).showable = true
  ln : (toPy d).shown.length ≤ N
  dp : (toPy d).depth ≤ k
structure RbL (ds : List D) (N k : Nat) : Prop where
  fl : flatAll ds = true
  sh : PyData.showableAll (toPyAll ds) = true
  ln : ((PyData.shownAll (toPyAll ds)).map (·.length)).sum ≤ N
  dp : PyData.depthAll (toPyAll ds) ≤ k
theorem RbL.nil {k : Nat} : RbL [] 0 k := ⟨rfl, rfl, Nat.le_refl _, Nat.zero_le _⟩
theorem RbL.cons {d : D} {ds : List D} {N M k : Nat} (h : Rb d N k) (t : RbL ds M k) : RbL (d :: ds) (N + M) k := by
  refine ⟨?_, ?_, ?_, ?_⟩
  · show (flat d && flatAll ds) = true
    rw [h.fl, t.fl] <;> rfl
  · show ((toPy d).showable && PyData.showableAll (toPyAll ds)) = true
    rw [h.sh, t.sh] <;> rfl
  · show (toPy d).shown.length + ((PyData.shownAll (toPyAll ds)).map (·.length)).sum ≤ N + M
    exact Nat.add_le_add h.ln t.ln
  · show max (toPy d).depth (PyData.depthAll (toPyAll ds)) ≤ k
    exact Nat.max_le.mpr ⟨h.dp, t.dp⟩
theorem Rb.mono {d : D} {N M k l : Nat} (h : Rb d N k) (a : N ≤ M) (b : k ≤ l) : Rb d M l := ⟨h.fl, h.sh, Nat.le_trans h.ln a, Nat.le_trans h.dp b⟩
theorem shownAll_len : ∀ ds : List D, (PyData.shownAll (toPyAll ds)).length = ds.length
  | [] => rfl
  | d :: ds => by
    show (PyData.shownAll (toPyAll ds)).length + 1 = _
    rw [shownAll_len ds] <;> rfl
theorem RbL.tup {ds : List D} {N k : Nat} (h : RbL ds N k) : Rb (.tup ds) (N + 2 * ds.length + 3) (k + 1) := by
  refine ⟨h.fl, h.sh, ?_, ?_⟩
  · show (tupleText (PyData.shownAll (toPyAll ds))).length ≤ _
    have a := tupleText_len_le (PyData.shownAll (toPyAll ds))
    have b := shownAll_len ds
    have c := h.ln
    omega
  · show PyData.depthAll (toPyAll ds) + 1 ≤ k + 1
    exact Nat.succ_le_succ h.dp
theorem RbL.lst {ds : List D} {N k : Nat} (h : RbL ds N k) : Rb (.lst ds) (N + 2 * ds.length + 3) (k + 1) := by
  refine ⟨h.fl, h.sh, ?_, ?_⟩
  · show (listText (PyData.shownAll (toPyAll ds))).length ≤ _
    have a := listText_len_le (PyData.shownAll (toPyAll ds))
    have b := shownAll_len ds
    have c := h.ln
    omega
  · show PyData.depthAll (toPyAll ds) + 1 ≤ k + 1
    exact Nat.succ_le_succ h.dp
theorem rb_int {i : Int} {k : Nat} (h : i.natAbs.log2 < k) (h0 : 0 < k) (h1 : k ≤ 1920) : Rb (.int i) (k + 1) 0 := by
  refine ⟨rfl, ?_, ?_, Nat.le_refl _⟩
  · show decide (i.natAbs.log2 < 1920) = true
    exact decide_eq_true (by omega)
  · show (Str.ofString (toString i)).length ≤ k + 1
    rw [ofString_length]
    exact int_text_length_le h0 h
theorem log_lt {n k : Nat} (h : n < 2 ^ k) (h0 : 0 < k) : n.log2 < k := by
  by_cases z : n = 0
  · subst z
    rw [show Nat.log2 0 = 0 by decide]
    exact h0
  · exact (Nat.log2_lt z).mpr h
theorem rb_str {s : Str} (h : NM.contains s = true) : Rb (.str s) 20 0 := by
  rcases nm_cases h with rfl | rfl | rfl | rfl | rfl | rfl | rfl | rfl | rfl | rfl | rfl <;> exact ⟨rfl, rfl, Nat.le_of_ble_eq_true (by kernel_rfl), Nat.le_refl _⟩
theorem nm_one {s : Str} (h : s ∈ ONES) : NM.contains s = true := by rcases ones_cases h with rfl | rfl | rfl <;> kernel_rfl
theorem nm_two {s : Str} (h : s ∈ PAIRS) : NM.contains s = true := by rcases pairs_cases h with rfl | rfl | rfl | rfl <;> kernel_rfl
theorem rb_wf : ∀ (n : Nat) (d : D), WF n d → Rb d (60 * cnt n d) n
  | 0, _, h => h.elim
  | n + 1, d, h => by
    rcases good_cases h.nice_ h.good_ with rfl | ⟨i, rfl, i0, i1⟩ | ⟨s, a, rfl, hs, ha⟩ | ⟨a, i, rfl, i0, i1, ha⟩ | ⟨s, a, b, rfl, hs, ha, hb⟩
    · have c : cnt (n + 1) (.tup [.str "x"]) = 1 := by kernel_rfl
      rw [c]
      exact ((RbL.cons ((rb_str (s := "x") (by kernel_rfl)).mono (Nat.le_refl _) (Nat.zero_le n)) .nil).tup).mono (by simp) (Nat.le_refl _)
    · have c : cnt (n + 1) (.tup [.str "whole", .int i]) = 1 := by kernel_rfl
      rw [c]
      have ri : Rb (.int i) 21 0 := rb_int (k := 20) (log_lt (by omega) (by omega)) (by omega) (by omega)
      exact ((RbL.cons ((rb_str (s := "whole") (by kernel_rfl)).mono (Nat.le_refl _) (Nat.zero_le n)) (.cons (ri.mono (Nat.le_refl _) (Nat.zero_le n)) .nil)).tup).mono (by simp) (Nat.le_refl _)
    · have w : within (.tup [.str s, a]) = [a] := by rcases ones_cases hs with rfl | rfl | rfl <;> kernel_rfl
      have c : cnt (n + 1) (.tup [.str s, a]) = 1 + cnt n a := by
        show 1 + ((within (.tup [.str s, a])).map (cnt n)).sum = _
        rw [w]
        simp
      rw [c]
      have ra := rb_wf n a (h.2.2 a (by rw [w]; exact List.mem_singleton.mpr rfl))
      exact ((RbL.cons ((rb_str (nm_one hs)).mono (Nat.le_refl _) (Nat.zero_le n)) (.cons ra .nil)).tup).mono (by simp; omega) (Nat.le_refl _)
    · have w : within (.tup [.str "power", a, .int i]) = [a] := by kernel_rfl
      have c : cnt (n + 1) (.tup [.str "power", a, .int i]) = 1 + cnt n a := by
        show 1 + ((within (.tup [.str "power", a, .int i])).map (cnt n)).sum = _
        rw [w]
        simp
      rw [c]
      have ra := rb_wf n a (h.2.2 a (by rw [w]; exact List.mem_singleton.mpr rfl))
      have ri : Rb (.int i) 21 0 := rb_int (k := 20) (log_lt (by omega) (by omega)) (by omega) (by omega)
      exact ((RbL.cons ((rb_str (s := "power") (by kernel_rfl)).mono (Nat.le_refl _) (Nat.zero_le n)) (.cons ra (.cons (ri.mono (Nat.le_refl _) (Nat.zero_le n)) .nil))).tup).mono (by simp; omega) (Nat.le_refl _)
    · have w : within (.tup [.str s, a, b]) = [a, b] := by rcases pairs_cases hs with rfl | rfl | rfl | rfl <;> kernel_rfl
      have c : cnt (n + 1) (.tup [.str s, a, b]) = 1 + (cnt n a + cnt n b) := by
        show 1 + ((within (.tup [.str s, a, b])).map (cnt n)).sum = _
        rw [w]
        simp
      rw [c]
      have ra := rb_wf n a (h.2.2 a (by rw [w]; exact List.mem_cons_self ..))
      have rb := rb_wf n b (h.2.2 b (by rw [w]; exact List.mem_cons_of_mem _ (List.mem_singleton.mpr rfl)))
      exact ((RbL.cons ((rb_str (nm_two hs)).mono (Nat.le_refl _) (Nat.zero_le n)) (.cons ra (.cons rb .nil))).tup).mono (by simp; omega) (Nat.le_refl _)
theorem reprOk_of {d : D} {N k : Nat} (h : Rb d N k) (hn : N ≤ 16777216) (hk : k ≤ 128) : reprOk d = true := by
  unfold reprOk
  rw [h.fl, h.sh, decide_eq_true (show (toPy d).shown.length ≤ sizeLine by rw [sizeLine_eq]; exact Nat.le_trans h.ln hn), decide_eq_true (Nat.le_trans h.dp hk)] <;> rfl
theorem same_ok {d : D} (h : reprOk d = true) : F__law_same [d, d] = .ok (.bl true, []) := by
  have e : gRepr [d] = some (.str (toPy d).shown) := by
    show (if reprOk d = true then _ else _) = _
    rw [if_pos h]
  have e2 : gEqS (.str (toPy d).shown) (.str (toPy d).shown) = some (.bl true) := by
    show some (D.bl ((toPy d).shown == (toPy d).shown)) = _
    rw [beq_self_eq_true]
  generalize (toPy d).shown = T at *
  simp [f0_e, put_so, K1_ok, K1_er, f1_e, K2b_ok, K2b_er, K2_ok, K2_er, f2_e, KN_ok, KN_er, fN_e, aNil_e, KAb_ok, KAb_er, KA_ok, KA_er, aCons_e, fvO_so, fv_e, KT_ok, KT_er, tV_e, KNt_ok, KNt_er, tNt_e, KAn_ok, KAn_er, tAn_e, KOr_ok, KOr_er, tOr'_e, KIe_ok, KIe_er, fIf_e, tYs_e, KEa_ok, eAn_e, KEo_ok, eOr_e, KCh3_ok, KCh3_er, KCh2_ok, KChO_so, KCh1_ok, KCh1_er, fCh_e, sNx_e, sBk_e, sCt_e, sRetN_e, sRaise_e, KS_nx, KS_rt, KS_bk, KS_ct, KS_er, sSeq_e, KIf_ok, KIf_er, sIf_e, KG_ok, KG_er, sAsg_e, nxt_so, gNm_e, KR_ok, KR_er, sRet_e, KD_ok, KD_er, sDrop_e, KP_ok, sPar_e, KF_ok, KF_er, sFor_e, KOw_ok, KOw_er, sOwn_e, KnL_ok, KnL_er, nLst_e, lsO_so, lstAt_e, KoIo_so, KoI_ok, oIx_e, KoL_so, oLen_e, KoAo_so, KoA_ok, KoA_er, oApp_e, KoEo_so, KoE_ok, oExt_e, KsIo2_so, KsIo_so, KsI2_ok, KsI_ok, KsI_er, sSetI_e, KC2_ok, KC2_er, KC_ok, KC_er, fCall_e, KI2_ok, KIo_so, KI_ok, fCallIo_e, KnC2_ok, KnC_ok, KnC_er, nCall_e, KsQ_t, KsQ_l, KsQ_f, iSeq_e, KsE_t, KsE_l, iEn_e, KR1_ok, iRn1_e, KL_ok, KL_er, lstE_e, Kc1_ok, Kc1_er, compN_e, Kc2_ok, Kc2_er, compN2_e, fitL_so, KoP_ok, oPt_e, oNo_e, Ksl3_ok, Ksl3_er, Ksl2_ok, Ksl2_er, Ksl1_ok, Ksl1_er, fSl_e, KTy_ok, KTy_er, sTry_e, KB_rt, KB_nx, KB_er, runB_e, outs_nil, outs_0, gsNil_e, gsCons_e, gTp_t, F__law_same, d__law_same, e, e2]
theorem same_bl (b : Bool) : F__law_same [.bl b, .bl b] = .ok (.bl true, []) := by
  cases b
  · exact same_ok (by decide)
  · exact same_ok (by decide)
end Q68
set_option maxHeartbeats 4000000
namespace Q68
open PySem PySem.Spec Pl
/-! ### the slope shown -/
theorem rT2 {s : Str} {a : D} {N k : Nat} (hs : NM.contains s = true) (h : Rb a N k) : Rb (T2 s a) (N + 30) (k + 1) :=
  ((RbL.cons ((rb_str hs).mono (Nat.le_refl _) (Nat.zero_le k)) (.cons h .nil)).tup).mono (by simp; omega) (Nat.le_refl _)
theorem rT3 {s : Str} {a b : D} {N M k : Nat} (hs : NM.contains s = true) (h : Rb a N k) (h2 : Rb b M k) : Rb (T3 s a b) (N + M + 30) (k + 1) :=
  ((RbL.cons ((rb_str hs).mono (Nat.le_refl _) (Nat.zero_le k)) (.cons h (.cons h2 .nil))).tup).mono (by simp; omega) (Nat.le_refl _)
theorem rI {i : Int} (h0 : 0 ≤ i) (h1 : i ≤ 1000000) : Rb (.int i) 21 0 := rb_int (k := 20) (log_lt (by omega) (by omega)) (by omega) (by omega)
theorem rW1 {i : Int} (h0 : 0 ≤ i) (h1 : i ≤ 1000000) : Rb (W1 i) 60 1 := (rT2 (s := "whole") (by kernel_rfl) (rI h0 h1)).mono (by omega) (Nat.le_refl _)
theorem slp_rb : ∀ (n : Nat) (d : D), WF n d → Rb (slp n d) (400 * (n * cnt n d)) (3 * n)
  | 0, _, h => h.elim
  | n + 1, d, h => by
    have ih : ∀ p ∈ within d, Rb (slp n p) (400 * (n * cnt n p)) (3 * n) ∧ Rb p (60 * cnt n p) n := fun p m => ⟨slp_rb n p (h.2.2 p m), rb_wf n p (h.2.2 p m)⟩
    have c0 : cnt (n + 1) d = 1 + ((within d).map (cnt n)).sum := rfl
    have c1 : ∀ a, within d = [a] → cnt (n + 1) d = 1 + cnt n a := fun a w => by rw [c0, w]; simp
    have c2 : ∀ a b, within d = [a, b] → cnt (n + 1) d = 1 + (cnt n a + cnt n b) := fun a b w => by rw [c0, w]; simp
    have cp : 1 ≤ (n + 1) * cnt (n + 1) d := by
      have : 1 ≤ cnt (n + 1) d := by rw [c0]; omega
      exact Nat.mul_pos (by omega) this
    have e1 : ∀ a, within d = [a] → (n + 1) * cnt (n + 1) d = n + n * cnt n a + 1 + cnt n a := fun a w => by
      rw [c1 a w]
      simp only [Nat.add_mul, Nat.mul_add, Nat.one_mul, Nat.mul_one]
      omega
    have e2 : ∀ a b, within d = [a, b] → (n + 1) * cnt (n + 1) d = n + n * cnt n a + n * cnt n b + 1 + cnt n a + cnt n b := fun a b w => by
      rw [c2 a b w]
      simp only [Nat.add_mul, Nat.mul_add, Nat.one_mul, Nat.mul_one]
      omega
    generalize (n + 1) * cnt (n + 1) d = Z at *
    have i1 : ∀ a, within d = [a] → Rb (slp n a) (400 * (n * cnt n a)) (3 * n) ∧ Rb a (60 * cnt n a) n := fun a w => ih a (by rw [w]; exact List.mem_singleton.mpr rfl)
    have i2 : ∀ a b, within d = [a, b] → (Rb (slp n a) (400 * (n * cnt n a)) (3 * n) ∧ Rb a (60 * cnt n a) n) ∧ (Rb (slp n b) (400 * (n * cnt n b)) (3 * n) ∧ Rb b (60 * cnt n b) n) := fun a b w => ⟨ih a (by rw [w]; exact List.mem_cons_self ..), ih b (by rw [w]; exact List.mem_cons_of_mem _ (List.mem_singleton.mpr rfl))⟩
    refine slp_cases (P := fun _ r => Rb r (400 * Z) (3 * (n + 1))) h ?_ ?_ ?_ ?_ ?_ ?_ ?_ ?_ ?_ ?_ ?_
    · exact (rW1 (by omega) (by omega)).mono (by omega) (by omega)
    · exact fun i => (rW1 (by omega) (by omega)).mono (by omega) (by omega)
    · intro a _ w
      have z := e1 a w
      exact (rT2 (s := "negative") (by kernel_rfl) (i1 a w).1).mono (by omega) (by omega)
    · intro a _ w
      have z := e1 a w
      obtain ⟨x, y⟩ := i1 a w
      exact (rT3 (s := "over") (by kernel_rfl) x (y.mono (Nat.le_refl _) (show n ≤ 3 * n by omega))).mono (by omega) (by omega)
    · intro a _ w
      have z := e1 a w
      obtain ⟨x, y⟩ := i1 a w
      exact (rT3 (s := "times") (by kernel_rfl) (x.mono (Nat.le_refl _) (show 3 * n ≤ 3 * n + 1 by omega)) (((rT2 (s := "exp") (by kernel_rfl) y)).mono (Nat.le_refl _) (show n + 1 ≤ 3 * n + 1 by omega))).mono (by omega) (by omega)
    · exact fun a _ _ => (rW1 (by omega) (by omega)).mono (by omega) (by omega)
    · intro a i _ w i0 i1'
      have z := e1 a w
      obtain ⟨x, y⟩ := i1 a w
      have p1 := rT3 (s := "power") (k := n) (by kernel_rfl) y ((rI (i := i - 1) (by omega) (by omega)).mono (Nat.le_refl _) (Nat.zero_le _))
      have p2 := rT3 (s := "times") (k := n + 1) (by kernel_rfl) ((rW1 (i := i) (by omega) (by omega)).mono (Nat.le_refl _) (by omega)) p1
      exact (rT3 (s := "times") (k := 3 * n + 2) (by kernel_rfl) (p2.mono (Nat.le_refl _) (by omega)) (x.mono (Nat.le_refl _) (by omega))).mono (by omega) (by omega)
    · intro a b _ w
      have z := e2 a b w
      obtain ⟨⟨x, y⟩, x2, y2⟩ := i2 a b w
      exact (rT3 (s := "plus") (by kernel_rfl) x x2).mono (by omega) (by omega)
    · intro a b _ w
      have z := e2 a b w
      obtain ⟨⟨x, y⟩, x2, y2⟩ := i2 a b w
      exact (rT3 (s := "minus") (by kernel_rfl) x x2).mono (by omega) (by omega)
    · intro a b _ w
      have z := e2 a b w
      obtain ⟨⟨x, y⟩, x2, y2⟩ := i2 a b w
      have p1 := rT3 (s := "times") (by kernel_rfl) x (y2.mono (Nat.le_refl _) (show n ≤ 3 * n by omega))
      have p2 := rT3 (s := "times") (by kernel_rfl) (y.mono (Nat.le_refl _) (show n ≤ 3 * n by omega)) x2
      exact (rT3 (s := "plus") (by kernel_rfl) p1 p2).mono (by omega) (by omega)
    · intro a b _ w
      have z := e2 a b w
      obtain ⟨⟨x, y⟩, x2, y2⟩ := i2 a b w
      have p1 := rT3 (s := "times") (by kernel_rfl) x (y2.mono (Nat.le_refl _) (show n ≤ 3 * n by omega))
      have p2 := rT3 (s := "times") (by kernel_rfl) (y.mono (Nat.le_refl _) (show n ≤ 3 * n by omega)) x2
      have p3 := rT3 (s := "minus") (by kernel_rfl) p1 p2
      have p4 := rT3 (s := "power") (k := n) (by kernel_rfl) y2 ((rI (i := 2) (by omega) (by omega)).mono (Nat.le_refl _) (Nat.zero_le _))
      exact (rT3 (s := "over") (k := 3 * n + 2) (by kernel_rfl) p3 (p4.mono (Nat.le_refl _) (by omega))).mono (by omega) (by omega)
/-! ### heights -/
theorem hg_wf : ∀ (n : Nat) (L : List D), L ≠ [] → (∀ d ∈ L, WF n d) → ∀ k, (hg n L ≤ k → ∀ d ∈ L, WF k d) ∧ ((∀ d ∈ L, WF k d) → hg n L ≤ k)
  | 0, L, h0, h, k => by
    obtain ⟨d, m⟩ := List.exists_mem_of_ne_nil L h0
    exact (h d m).elim
  | n + 1, L, h0, h, 0 => by
    obtain ⟨d, m⟩ := List.exists_mem_of_ne_nil L h0
    refine ⟨fun q => ?_, fun q => (q d m).elim⟩
    unfold hg at q
    omega
  | n + 1, L, h0, h, k + 1 => by
    by_cases e : L.flatMap within = []
    · have kid : ∀ d ∈ L, within d = [] := fun d m => List.eq_nil_iff_forall_not_mem.mpr fun p q => by
        have : p ∈ L.flatMap within := List.mem_flatMap.mpr ⟨d, m, q⟩
        rw [e] at this
        cases this
      refine ⟨fun _ d m => ⟨(h d m).nice_, (h d m).good_, fun p q => ?_⟩, fun _ => ?_⟩
      · rw [kid d m] at q; cases q
      · unfold hg
        rw [e]
        simp
    · have hk : ∀ p ∈ L.flatMap within, WF n p := fun p q => by
        obtain ⟨d, m1, m2⟩ := List.mem_flatMap.mp q
        exact (h d m1).2.2 p m2
      obtain ⟨z1, z2⟩ := hg_wf n (L.flatMap within) e hk k
      have ne : ¬ (L.flatMap within).length = 0 := fun z => e (List.length_eq_zero_iff.mp z)
      have eh : hg (n + 1) L = 1 + hg n (L.flatMap within) := by
        show 1 + (if (L.flatMap within).length = 0 then 0 else hg n (L.flatMap within)) = _
        rw [if_neg ne]
      rw [eh]
      refine ⟨fun q d m => ⟨(h d m).nice_, (h d m).good_, fun p hp => z1 (by omega) p (List.mem_flatMap.mpr ⟨d, m, hp⟩)⟩, fun q => ?_⟩
      have := z2 fun p hp => by
        obtain ⟨d, m1, m2⟩ := List.mem_flatMap.mp hp
        exact (q d m1).2.2 p m2
      omega
theorem one_wf {n : Nat} {v : D} (w : WF n v) : ∀ d ∈ [v], WF n d := fun d m => (List.mem_singleton.mp m) ▸ w
theorem fits_one {P n : Nat} {v : D} (w : WF n v) : fits P n [v] 0 = decide (cnt n v ≤ P) := by
  rw [fits_of_wf n [v] 0 (by simp) (one_wf w)]
  simp
theorem fits_high {P n k : Nat} {v : D} (w : WF n v) (h : k < hg n [v]) : fits P k [v] 0 = false := by
  cases f : fits P k [v] 0 with
  | false => rfl
  | true =>
    have z := wf_of_fits k [v] 0 (fun x m => (List.mem_singleton.mp m) ▸ w.nice_) f
    have := (hg_wf n [v] (by simp) (one_wf w) k).2 z
    omega
theorem wf_low {n k : Nat} {v : D} (w : WF n v) (h : hg n [v] ≤ k) : WF k v := (hg_wf n [v] (by simp) (one_wf w) k).1 h v (List.mem_singleton.mpr rfl)
/-! ### derived_term -/
theorem derived_no {v : D} (h : nice v = true) (f : fits 20000 60 [v] 0 = false) : F_derived_term [v] = .err ⟨"InvalidTerm", []⟩ [] := by
  have e := need_no h f
  simp [f0_e, put_so, K1_ok, K1_er, f1_e, K2b_ok, K2b_er, K2_ok, K2_er, f2_e, KN_ok, KN_er, fN_e, aNil_e, KAb_ok, KAb_er, KA_ok, KA_er, aCons_e, fvO_so, fv_e, KT_ok, KT_er, tV_e, KNt_ok, KNt_er, tNt_e, KAn_ok, KAn_er, tAn_e, KOr_ok, KOr_er, tOr'_e, KIe_ok, KIe_er, fIf_e, tYs_e, KEa_ok, eAn_e, KEo_ok, eOr_e, KCh3_ok, KCh3_er, KCh2_ok, KChO_so, KCh1_ok, KCh1_er, fCh_e, sNx_e, sBk_e, sCt_e, sRetN_e, sRaise_e, KS_nx, KS_rt, KS_bk, KS_ct, KS_er, sSeq_e, KIf_ok, KIf_er, sIf_e, KG_ok, KG_er, sAsg_e, nxt_so, gNm_e, KR_ok, KR_er, sRet_e, KD_ok, KD_er, sDrop_e, KP_ok, sPar_e, KF_ok, KF_er, sFor_e, KOw_ok, KOw_er, sOwn_e, KnL_ok, KnL_er, nLst_e, lsO_so, lstAt_e, KoIo_so, KoI_ok, oIx_e, KoL_so, oLen_e, KoAo_so, KoA_ok, KoA_er, oApp_e, KoEo_so, KoE_ok, oExt_e, KsIo2_so, KsIo_so, KsI2_ok, KsI_ok, KsI_er, sSetI_e, KC2_ok, KC2_er, KC_ok, KC_er, fCall_e, KI2_ok, KIo_so, KI_ok, fCallIo_e, KnC2_ok, KnC_ok, KnC_er, nCall_e, KsQ_t, KsQ_l, KsQ_f, iSeq_e, KsE_t, KsE_l, iEn_e, KR1_ok, iRn1_e, KL_ok, KL_er, lstE_e, Kc1_ok, Kc1_er, compN_e, Kc2_ok, Kc2_er, compN2_e, fitL_so, KoP_ok, oPt_e, oNo_e, Ksl3_ok, Ksl3_er, Ksl2_ok, Ksl2_er, Ksl1_ok, Ksl1_er, fSl_e, KTy_ok, KTy_er, sTry_e, KB_rt, KB_nx, KB_er, runB_e, outs_nil, outs_0, gsNil_e, gsCons_e, gTp_t, F_derived_term, d_derived_term, e]
theorem log16 : Nat.log2 (Int.natAbs 16) < 1920 := by decide
theorem log400 : Nat.log2 (Int.natAbs 400) < 1920 := by decide
theorem derived_16 {v : D} (h : nice v = true) (f : fits 20000 60 [v] 0 = true) (g : fits 20000 16 [v] 0 = false) : F_derived_term [v] = .err ⟨"TooMany", [("limit", .int 16)]⟩ [] := by
  have e := need_ok h f
  have e1 := fits_ok (n := 16) (P := 20000) h (by omega) (by omega)
  rw [g] at e1
  have e1' : F_fits_term [v, .int 16, .int 20000] = .ok (.bl false, []) := e1
  have e5 : F_derived_term [v] = KB [] (d_derived_term [some v]) := by
    unfold F_derived_term
    rw [runB_e] <;> rfl
  rw [e5]
  simp only [f0_e, put_so, K1_ok, K1_er, f1_e, K2b_ok, K2b_er, K2_ok, K2_er, f2_e, KN_ok, KN_er, fN_e, aNil_e, KAb_ok, KAb_er, KA_ok, KA_er, aCons_e, fvO_so, fv_e, KT_ok, KT_er, tV_e, KNt_ok, KNt_er, tNt_e, KAn_ok, KAn_er, tAn_e, KOr_ok, KOr_er, tOr'_e, KIe_ok, KIe_er, fIf_e, tYs_e, KEa_ok, eAn_e, KEo_ok, eOr_e, KCh3_ok, KCh3_er, KCh2_ok, KChO_so, KCh1_ok, KCh1_er, fCh_e, sNx_e, sBk_e, sCt_e, sRetN_e, sRaise_e, KS_nx, KS_rt, KS_bk, KS_ct, KS_er, sSeq_e, KIf_ok, KIf_er, sIf_e, KG_ok, KG_er, sAsg_e, nxt_so, gNm_e, KR_ok, KR_er, sRet_e, KD_ok, KD_er, sDrop_e, KP_ok, sPar_e, KF_ok, KF_er, sFor_e, KOw_ok, KOw_er, sOwn_e, KnL_ok, KnL_er, nLst_e, lsO_so, lstAt_e, KoIo_so, KoI_ok, oIx_e, KoL_so, oLen_e, KoAo_so, KoA_ok, KoA_er, oApp_e, KoEo_so, KoE_ok, oExt_e, KsIo2_so, KsIo_so, KsI2_ok, KsI_ok, KsI_er, sSetI_e, KC2_ok, KC2_er, KC_ok, KC_er, fCall_e, KI2_ok, KIo_so, KI_ok, fCallIo_e, KnC2_ok, KnC_ok, KnC_er, nCall_e, KsQ_t, KsQ_l, KsQ_f, iSeq_e, KsE_t, KsE_l, iEn_e, KR1_ok, iRn1_e, KL_ok, KL_er, lstE_e, Kc1_ok, Kc1_er, compN_e, Kc2_ok, Kc2_er, compN2_e, fitL_so, KoP_ok, oPt_e, oNo_e, Ksl3_ok, Ksl3_er, Ksl2_ok, Ksl2_er, Ksl1_ok, Ksl1_er, fSl_e, KTy_ok, KTy_er, sTry_e, KB_rt, KB_nx, KB_er, runB_e, outs_nil, outs_0, gsNil_e, gsCons_e, gTp_t, d_derived_term, e, e1', sRaiseF_e, KRF_ok log16, List.getElem?_cons_succ, List.getElem?_cons_zero, if_true, Bool.not_false]
theorem derived_400 {v : D} (h : nice v = true) (f : fits 20000 60 [v] 0 = true) (g : fits 20000 16 [v] 0 = true) (k : fits 400 16 [v] 0 = false) : F_derived_term [v] = .err ⟨"TooMany", [("limit", .int 400)]⟩ [] := by
  have e := need_ok h f
  have e1 := fits_ok (n := 16) (P := 20000) h (by omega) (by omega)
  have e2 := fits_ok (n := 16) (P := 400) h (by omega) (by omega)
  rw [g] at e1
  rw [k] at e2
  have e1' : F_fits_term [v, .int 16, .int 20000] = .ok (.bl true, []) := e1
  have e2' : F_fits_term [v, .int 16, .int 400] = .ok (.bl false, []) := e2
  have e5 : F_derived_term [v] = KB [] (d_derived_term [some v]) := by
    unfold F_derived_term
    rw [runB_e] <;> rfl
  rw [e5]
  simp only [f0_e, put_so, K1_ok, K1_er, f1_e, K2b_ok, K2b_er, K2_ok, K2_er, f2_e, KN_ok, KN_er, fN_e, aNil_e, KAb_ok, KAb_er, KA_ok, KA_er, aCons_e, fvO_so, fv_e, KT_ok, KT_er, tV_e, KNt_ok, KNt_er, tNt_e, KAn_ok, KAn_er, tAn_e, KOr_ok, KOr_er, tOr'_e, KIe_ok, KIe_er, fIf_e, tYs_e, KEa_ok, eAn_e, KEo_ok, eOr_e, KCh3_ok, KCh3_er, KCh2_ok, KChO_so, KCh1_ok, KCh1_er, fCh_e, sNx_e, sBk_e, sCt_e, sRetN_e, sRaise_e, KS_nx, KS_rt, KS_bk, KS_ct, KS_er, sSeq_e, KIf_ok, KIf_er, sIf_e, KG_ok, KG_er, sAsg_e, nxt_so, gNm_e, KR_ok, KR_er, sRet_e, KD_ok, KD_er, sDrop_e, KP_ok, sPar_e, KF_ok, KF_er, sFor_e, KOw_ok, KOw_er, sOwn_e, KnL_ok, KnL_er, nLst_e, lsO_so, lstAt_e, KoIo_so, KoI_ok, oIx_e, KoL_so, oLen_e, KoAo_so, KoA_ok, KoA_er, oApp_e, KoEo_so, KoE_ok, oExt_e, KsIo2_so, KsIo_so, KsI2_ok, KsI_ok, KsI_er, sSetI_e, KC2_ok, KC2_er, KC_ok, KC_er, fCall_e, KI2_ok, KIo_so, KI_ok, fCallIo_e, KnC2_ok, KnC_ok, KnC_er, nCall_e, KsQ_t, KsQ_l, KsQ_f, iSeq_e, KsE_t, KsE_l, iEn_e, KR1_ok, iRn1_e, KL_ok, KL_er, lstE_e, Kc1_ok, Kc1_er, compN_e, Kc2_ok, Kc2_er, compN2_e, fitL_so, KoP_ok, oPt_e, oNo_e, Ksl3_ok, Ksl3_er, Ksl2_ok, Ksl2_er, Ksl1_ok, Ksl1_er, fSl_e, KTy_ok, KTy_er, sTry_e, KB_rt, KB_nx, KB_er, runB_e, outs_nil, outs_0, gsNil_e, gsCons_e, gTp_t, d_derived_term, e, e1', e2', sRaiseF_e, KRF_ok log400, List.getElem?_cons_succ, List.getElem?_cons_zero, if_true, Bool.not_false, Bool.not_true, Bool.false_eq_true, if_false]
theorem derived_ok {v : D} (h : nice v = true) (f : fits 20000 60 [v] 0 = true) (g : fits 20000 16 [v] 0 = true) (k : fits 400 16 [v] 0 = true) (w : WF 16 v) : F_derived_term [v] = .ok (slp 16 v, []) := by
  have e := need_ok h f
  have e1 := fits_ok (n := 16) (P := 20000) h (by omega) (by omega)
  have e2 := fits_ok (n := 16) (P := 400) h (by omega) (by omega)
  rw [g] at e1
  rw [k] at e2
  have e1' : F_fits_term [v, .int 16, .int 20000] = .ok (.bl true, []) := e1
  have e2' : F_fits_term [v, .int 16, .int 400] = .ok (.bl true, []) := e2
  have e3 := slope_ok 16 100 v w (by omega)
  have e5 : F_derived_term [v] = KB [] (d_derived_term [some v]) := by
    unfold F_derived_term
    rw [runB_e] <;> rfl
  rw [e5]
  simp only [f0_e, put_so, K1_ok, K1_er, f1_e, K2b_ok, K2b_er, K2_ok, K2_er, f2_e, KN_ok, KN_er, fN_e, aNil_e, KAb_ok, KAb_er, KA_ok, KA_er, aCons_e, fvO_so, fv_e, KT_ok, KT_er, tV_e, KNt_ok, KNt_er, tNt_e, KAn_ok, KAn_er, tAn_e, KOr_ok, KOr_er, tOr'_e, KIe_ok, KIe_er, fIf_e, tYs_e, KEa_ok, eAn_e, KEo_ok, eOr_e, KCh3_ok, KCh3_er, KCh2_ok, KChO_so, KCh1_ok, KCh1_er, fCh_e, sNx_e, sBk_e, sCt_e, sRetN_e, sRaise_e, KS_nx, KS_rt, KS_bk, KS_ct, KS_er, sSeq_e, KIf_ok, KIf_er, sIf_e, KG_ok, KG_er, sAsg_e, nxt_so, gNm_e, KR_ok, KR_er, sRet_e, KD_ok, KD_er, sDrop_e, KP_ok, sPar_e, KF_ok, KF_er, sFor_e, KOw_ok, KOw_er, sOwn_e, KnL_ok, KnL_er, nLst_e, lsO_so, lstAt_e, KoIo_so, KoI_ok, oIx_e, KoL_so, oLen_e, KoAo_so, KoA_ok, KoA_er, oApp_e, KoEo_so, KoE_ok, oExt_e, KsIo2_so, KsIo_so, KsI2_ok, KsI_ok, KsI_er, sSetI_e, KC2_ok, KC2_er, KC_ok, KC_er, fCall_e, KI2_ok, KIo_so, KI_ok, fCallIo_e, KnC2_ok, KnC_ok, KnC_er, nCall_e, KsQ_t, KsQ_l, KsQ_f, iSeq_e, KsE_t, KsE_l, iEn_e, KR1_ok, iRn1_e, KL_ok, KL_er, lstE_e, Kc1_ok, Kc1_er, compN_e, Kc2_ok, Kc2_er, compN2_e, fitL_so, KoP_ok, oPt_e, oNo_e, Ksl3_ok, Ksl3_er, Ksl2_ok, Ksl2_er, Ksl1_ok, Ksl1_er, fSl_e, KTy_ok, KTy_er, sTry_e, KB_rt, KB_nx, KB_er, runB_e, outs_nil, outs_0, gsNil_e, gsCons_e, gTp_t, d_derived_term, e, e1', e2', e3, List.getElem?_cons_succ, List.getElem?_cons_zero, if_true, Bool.not_false, Bool.not_true, Bool.false_eq_true, if_false]
/-! ### what comes of it -/
abbrev HSx : List HdX := [(ckT [("InvalidTerm", true), ("TooMany", false)], .inl (sRet (fN gTup (aCons (f0 (.str "InvalidTerm")) (aCons (f0 (.int 0)) aNil))))), (ckT [("InvalidTerm", false), ("TooMany", true)], .inr (pairOf "TooMany" (fldOf "TooMany" "limit")))]
theorem tx_it {ρ : Lc} : tryX ⟨"InvalidTerm", []⟩ HSx ρ = .ok (.rt (.tup [.str "InvalidTerm", .int 0]), ρ) := by kernel_rfl
theorem tx_tm {n : Int} {ρ : Lc} : tryX ⟨"TooMany", [("limit", .int n)]⟩ HSx ρ = .ok (.rt (.tup [.str "TooMany", .int n]), ρ) := by kernel_rfl
theorem derive_e (v : D) : F__law_derive [v] = KB [] (KTX HSx ((sRet (fN gTup (aCons (f0 (.str "term")) (aCons (fCall F_derived_term (aCons (fv 0) aNil)) aNil)))) [some v, none])) := by
  unfold F__law_derive
  rw [runB_e]
  show KB [] (d__law_derive [some v, none]) = _
  unfold d__law_derive
  rw [sTryX_e]
theorem derive_no {v : D} (h : nice v = true) (f : fits 20000 60 [v] 0 = false) : F__law_derive [v] = .ok (.tup [.str "InvalidTerm", .int 0], []) := by
  have e := derived_no h f
  rw [derive_e]
  simp only [f0_e, put_so, K1_ok, K1_er, f1_e, K2b_ok, K2b_er, K2_ok, K2_er, f2_e, KN_ok, KN_er, fN_e, aNil_e, KAb_ok, KAb_er, KA_ok, KA_er, aCons_e, fvO_so, fv_e, KT_ok, KT_er, tV_e, KNt_ok, KNt_er, tNt_e, KAn_ok, KAn_er, tAn_e, KOr_ok, KOr_er, tOr'_e, KIe_ok, KIe_er, fIf_e, tYs_e, KEa_ok, eAn_e, KEo_ok, eOr_e, KCh3_ok, KCh3_er, KCh2_ok, KChO_so, KCh1_ok, KCh1_er, fCh_e, sNx_e, sBk_e, sCt_e, sRetN_e, sRaise_e, KS_nx, KS_rt, KS_bk, KS_ct, KS_er, sSeq_e, KIf_ok, KIf_er, sIf_e, KG_ok, KG_er, sAsg_e, nxt_so, gNm_e, KR_ok, KR_er, sRet_e, KD_ok, KD_er, sDrop_e, KP_ok, sPar_e, KF_ok, KF_er, sFor_e, KOw_ok, KOw_er, sOwn_e, KnL_ok, KnL_er, nLst_e, lsO_so, lstAt_e, KoIo_so, KoI_ok, oIx_e, KoL_so, oLen_e, KoAo_so, KoA_ok, KoA_er, oApp_e, KoEo_so, KoE_ok, oExt_e, KsIo2_so, KsIo_so, KsI2_ok, KsI_ok, KsI_er, sSetI_e, KC2_ok, KC2_er, KC_ok, KC_er, fCall_e, KI2_ok, KIo_so, KI_ok, fCallIo_e, KnC2_ok, KnC_ok, KnC_er, nCall_e, KsQ_t, KsQ_l, KsQ_f, iSeq_e, KsE_t, KsE_l, iEn_e, KR1_ok, iRn1_e, KL_ok, KL_er, lstE_e, Kc1_ok, Kc1_er, compN_e, Kc2_ok, Kc2_er, compN2_e, fitL_so, KoP_ok, oPt_e, oNo_e, Ksl3_ok, Ksl3_er, Ksl2_ok, Ksl2_er, Ksl1_ok, Ksl1_er, fSl_e, KTy_ok, KTy_er, sTry_e, KB_rt, KB_nx, KB_er, runB_e, outs_nil, outs_0, gsNil_e, gsCons_e, gTp_t, e, KTX_er, tx_it, List.getElem?_cons_succ, List.getElem?_cons_zero]
theorem derive_16 {v : D} (h : nice v = true) (f : fits 20000 60 [v] 0 = true) (g : fits 20000 16 [v] 0 = false) : F__law_derive [v] = .ok (.tup [.str "TooMany", .int 16], []) := by
  have e := derived_16 h f g
  rw [derive_e]
  simp only [f0_e, put_so, K1_ok, K1_er, f1_e, K2b_ok, K2b_er, K2_ok, K2_er, f2_e, KN_ok, KN_er, fN_e, aNil_e, KAb_ok, KAb_er, KA_ok, KA_er, aCons_e, fvO_so, fv_e, KT_ok, KT_er, tV_e, KNt_ok, KNt_er, tNt_e, KAn_ok, KAn_er, tAn_e, KOr_ok, KOr_er, tOr'_e, KIe_ok, KIe_er, fIf_e, tYs_e, KEa_ok, eAn_e, KEo_ok, eOr_e, KCh3_ok, KCh3_er, KCh2_ok, KChO_so, KCh1_ok, KCh1_er, fCh_e, sNx_e, sBk_e, sCt_e, sRetN_e, sRaise_e, KS_nx, KS_rt, KS_bk, KS_ct, KS_er, sSeq_e, KIf_ok, KIf_er, sIf_e, KG_ok, KG_er, sAsg_e, nxt_so, gNm_e, KR_ok, KR_er, sRet_e, KD_ok, KD_er, sDrop_e, KP_ok, sPar_e, KF_ok, KF_er, sFor_e, KOw_ok, KOw_er, sOwn_e, KnL_ok, KnL_er, nLst_e, lsO_so, lstAt_e, KoIo_so, KoI_ok, oIx_e, KoL_so, oLen_e, KoAo_so, KoA_ok, KoA_er, oApp_e, KoEo_so, KoE_ok, oExt_e, KsIo2_so, KsIo_so, KsI2_ok, KsI_ok, KsI_er, sSetI_e, KC2_ok, KC2_er, KC_ok, KC_er, fCall_e, KI2_ok, KIo_so, KI_ok, fCallIo_e, KnC2_ok, KnC_ok, KnC_er, nCall_e, KsQ_t, KsQ_l, KsQ_f, iSeq_e, KsE_t, KsE_l, iEn_e, KR1_ok, iRn1_e, KL_ok, KL_er, lstE_e, Kc1_ok, Kc1_er, compN_e, Kc2_ok, Kc2_er, compN2_e, fitL_so, KoP_ok, oPt_e, oNo_e, Ksl3_ok, Ksl3_er, Ksl2_ok, Ksl2_er, Ksl1_ok, Ksl1_er, fSl_e, KTy_ok, KTy_er, sTry_e, KB_rt, KB_nx, KB_er, runB_e, outs_nil, outs_0, gsNil_e, gsCons_e, gTp_t, e, KTX_er, tx_tm, List.getElem?_cons_succ, List.getElem?_cons_zero]
theorem derive_400 {v : D} (h : nice v = true) (f : fits 20000 60 [v] 0 = true) (g : fits 20000 16 [v] 0 = true) (k : fits 400 16 [v] 0 = false) : F__law_derive [v] = .ok (.tup [.str "TooMany", .int 400], []) := by
  have e := derived_400 h f g k
  rw [derive_e]
  simp only [f0_e, put_so, K1_ok, K1_er, f1_e, K2b_ok, K2b_er, K2_ok, K2_er, f2_e, KN_ok, KN_er, fN_e, aNil_e, KAb_ok, KAb_er, KA_ok, KA_er, aCons_e, fvO_so, fv_e, KT_ok, KT_er, tV_e, KNt_ok, KNt_er, tNt_e, KAn_ok, KAn_er, tAn_e, KOr_ok, KOr_er, tOr'_e, KIe_ok, KIe_er, fIf_e, tYs_e, KEa_ok, eAn_e, KEo_ok, eOr_e, KCh3_ok, KCh3_er, KCh2_ok, KChO_so, KCh1_ok, KCh1_er, fCh_e, sNx_e, sBk_e, sCt_e, sRetN_e, sRaise_e, KS_nx, KS_rt, KS_bk, KS_ct, KS_er, sSeq_e, KIf_ok, KIf_er, sIf_e, KG_ok, KG_er, sAsg_e, nxt_so, gNm_e, KR_ok, KR_er, sRet_e, KD_ok, KD_er, sDrop_e, KP_ok, sPar_e, KF_ok, KF_er, sFor_e, KOw_ok, KOw_er, sOwn_e, KnL_ok, KnL_er, nLst_e, lsO_so, lstAt_e, KoIo_so, KoI_ok, oIx_e, KoL_so, oLen_e, KoAo_so, KoA_ok, KoA_er, oApp_e, KoEo_so, KoE_ok, oExt_e, KsIo2_so, KsIo_so, KsI2_ok, KsI_ok, KsI_er, sSetI_e, KC2_ok, KC2_er, KC_ok, KC_er, fCall_e, KI2_ok, KIo_so, KI_ok, fCallIo_e, KnC2_ok, KnC_ok, KnC_er, nCall_e, KsQ_t, KsQ_l, KsQ_f, iSeq_e, KsE_t, KsE_l, iEn_e, KR1_ok, iRn1_e, KL_ok, KL_er, lstE_e, Kc1_ok, Kc1_er, compN_e, Kc2_ok, Kc2_er, compN2_e, fitL_so, KoP_ok, oPt_e, oNo_e, Ksl3_ok, Ksl3_er, Ksl2_ok, Ksl2_er, Ksl1_ok, Ksl1_er, fSl_e, KTy_ok, KTy_er, sTry_e, KB_rt, KB_nx, KB_er, runB_e, outs_nil, outs_0, gsNil_e, gsCons_e, gTp_t, e, KTX_er, tx_tm, List.getElem?_cons_succ, List.getElem?_cons_zero]
theorem derive_ok {v : D} (h : nice v = true) (f : fits 20000 60 [v] 0 = true) (g : fits 20000 16 [v] 0 = true) (k : fits 400 16 [v] 0 = true) (w : WF 16 v) : F__law_derive [v] = .ok (.tup [.str "term", slp 16 v], []) := by
  have e := derived_ok h f g k w
  rw [derive_e]
  generalize slp 16 v = S at *
  simp only [f0_e, put_so, K1_ok, K1_er, f1_e, K2b_ok, K2b_er, K2_ok, K2_er, f2_e, KN_ok, KN_er, fN_e, aNil_e, KAb_ok, KAb_er, KA_ok, KA_er, aCons_e, fvO_so, fv_e, KT_ok, KT_er, tV_e, KNt_ok, KNt_er, tNt_e, KAn_ok, KAn_er, tAn_e, KOr_ok, KOr_er, tOr'_e, KIe_ok, KIe_er, fIf_e, tYs_e, KEa_ok, eAn_e, KEo_ok, eOr_e, KCh3_ok, KCh3_er, KCh2_ok, KChO_so, KCh1_ok, KCh1_er, fCh_e, sNx_e, sBk_e, sCt_e, sRetN_e, sRaise_e, KS_nx, KS_rt, KS_bk, KS_ct, KS_er, sSeq_e, KIf_ok, KIf_er, sIf_e, KG_ok, KG_er, sAsg_e, nxt_so, gNm_e, KR_ok, KR_er, sRet_e, KD_ok, KD_er, sDrop_e, KP_ok, sPar_e, KF_ok, KF_er, sFor_e, KOw_ok, KOw_er, sOwn_e, KnL_ok, KnL_er, nLst_e, lsO_so, lstAt_e, KoIo_so, KoI_ok, oIx_e, KoL_so, oLen_e, KoAo_so, KoA_ok, KoA_er, oApp_e, KoEo_so, KoE_ok, oExt_e, KsIo2_so, KsIo_so, KsI2_ok, KsI_ok, KsI_er, sSetI_e, KC2_ok, KC2_er, KC_ok, KC_er, fCall_e, KI2_ok, KIo_so, KI_ok, fCallIo_e, KnC2_ok, KnC_ok, KnC_er, nCall_e, KsQ_t, KsQ_l, KsQ_f, iSeq_e, KsE_t, KsE_l, iEn_e, KR1_ok, iRn1_e, KL_ok, KL_er, lstE_e, Kc1_ok, Kc1_er, compN_e, Kc2_ok, Kc2_er, compN2_e, fitL_so, KoP_ok, oPt_e, oNo_e, Ksl3_ok, Ksl3_er, Ksl2_ok, Ksl2_er, Ksl1_ok, Ksl1_er, fSl_e, KTy_ok, KTy_er, sTry_e, KB_rt, KB_nx, KB_er, runB_e, outs_nil, outs_0, gsNil_e, gsCons_e, gTp_t, e, KTX_ok, gt_2, List.getElem?_cons_succ, List.getElem?_cons_zero]
end Q68
set_option maxHeartbeats 4000000
namespace Q68
open PySem PySem.Spec Pl
def S1 : SD := (sOwn 1 (nCall F__law_cup (aCons (fv 0) aNil)))
def S2 : SD := (sAsg (fCallIo 1 (F__law_drawn 100) (aCons (fCallIo 1 F__law_some (aCons (fN gLst (aCons (f0 (.int 1)) (aCons (f0 (.int 2)) (aCons (f0 (.int 3)) (aCons (f0 (.int 4)) (aCons (f0 (.int 5)) aNil)))))) aNil)) (aCons (fN gLst (aCons (f0 (.int 0)) (aCons (f0 (.int 1)) (aCons (f0 (.int 2)) (aCons (f0 (.int 3)) (aCons (f0 (.int 12)) aNil)))))) (aCons (fN gLst (aCons (f0 (.str "log")) (aCons (f0 (.str "exp")) aNil))) aNil)))) (gNm 2))
def S3 : SD := (sIf (tV (f2 gEq (fCallIo 1 F__law_roll (aCons (f0 (.int 16)) aNil)) (f0 (.int 0)))) (sFor (iRn1 (aCons (fCallIo 1 F__law_some (aCons (fN gLst (aCons (f0 (.int 11)) (aCons (f0 (.int 12)) (aCons (f0 (.int 13)) (aCons (f0 (.int 14)) (aCons (f0 (.int 15)) (aCons (f0 (.int 16)) aNil))))))) aNil)) aNil)) (gNm 3) (sAsg (fN gTup (aCons (fCallIo 1 F__law_some (aCons (fN gLst (aCons (f0 (.str "negative")) (aCons (f0 (.str "exp")) (aCons (f0 (.str "log")) aNil)))) aNil)) (aCons (fv 2) aNil))) (gNm 2))) sNx)
def S4 : SD := (sIf (tV (f2 gEq (fCallIo 1 F__law_roll (aCons (f0 (.int 16)) aNil)) (f0 (.int 0)))) (sFor (iRn1 (aCons (fCallIo 1 F__law_some (aCons (fN gLst (aCons (f0 (.int 4)) (aCons (f0 (.int 5)) (aCons (f0 (.int 6)) (aCons (f0 (.int 7)) aNil))))) aNil)) aNil)) (gNm 3) (sAsg (fN gTup (aCons (fCallIo 1 F__law_some (aCons (fN gLst (aCons (f0 (.str "plus")) (aCons (f0 (.str "minus")) aNil))) aNil)) (aCons (fv 2) (aCons (fCallIo 1 F__law_some (aCons (fN gLst (aCons (fv 2) (aCons (fN gTup (aCons (f0 (.str "x")) aNil)) aNil))) aNil)) aNil)))) (gNm 2))) sNx)
def S5 : SD := (sIf (tV (f2 gEq (fCallIo 1 F__law_roll (aCons (f0 (.int 8)) aNil)) (f0 (.int 0)))) (sRet (fCall F__law_same (aCons (fCall F__law_derive (aCons (fCall (F__law_put 100) (aCons (fv 2) (aCons (fCallIo 1 F__law_path (aCons (fv 2) aNil)) (aCons (fCallIo 1 F__law_odd aNil) aNil)))) aNil)) (aCons (fN gTup (aCons (f0 (.str "InvalidTerm")) (aCons (f0 (.int 0)) aNil))) aNil)))) sNx)
def S6 : SD := (sIf (tV (f2 gGt (fCall F__law_height (aCons (fv 2) aNil)) (f0 (.int 16)))) (sRet (fCall F__law_same (aCons (fCall F__law_derive (aCons (fv 2) aNil)) (aCons (fN gTup (aCons (f0 (.str "TooMany")) (aCons (f0 (.int 16)) aNil))) aNil)))) sNx)
def S7 : SD := (sIf (tV (f2 gGt (fCall (F__law_count 100) (aCons (fv 2) aNil)) (f0 (.int 400)))) (sRet (fCall F__law_same (aCons (fCall F__law_derive (aCons (fv 2) aNil)) (aCons (fN gTup (aCons (f0 (.str "TooMany")) (aCons (f0 (.int 400)) aNil))) aNil)))) sNx)
def S8 : SD := (sRet (fCall F__law_same (aCons (fCall F__law_derive (aCons (fv 2) aNil)) (aCons (fN gTup (aCons (f0 (.str "term")) (aCons (fCall (F__law_term_slope 100) (aCons (fv 2) aNil)) aNil))) aNil))))
def T8s : SD := S8
def T7s : SD := sSeq S7 T8s
def T6s : SD := sSeq S6 T7s
def T5s : SD := sSeq S5 T6s
def T4s : SD := sSeq S4 T5s
def T3s : SD := sSeq S3 T4s
def T2s : SD := sSeq S2 T3s
def T1s : SD := sSeq S1 T2s
theorem law_tails : d_law = T1s := rfl
theorem eq0 {r : Int} (h : ¬ r = 0) : gEq (.int r) (.int 0) = some (.bl false) := eq_i0 h
theorem eq00 : gEq (.int 0) (.int 0) = some (.bl true) := by kernel_rfl
theorem glN {ds : List D} (h : ds.length ≤ 1000) : gLst ds = some (.lst ds) := by
  have l : lnOk ds.length = true := lnOk_of (by omega)
  unfold gLst
  rw [l]
  exact if_pos rfl
theorem gl2 (a b : D) : gLst [a, b] = some (.lst [a, b]) := glN (by show 2 ≤ 1000; omega)
theorem gl3 (a b c : D) : gLst [a, b, c] = some (.lst [a, b, c]) := glN (by show 3 ≤ 1000; omega)
theorem gl4 (a b c d : D) : gLst [a, b, c, d] = some (.lst [a, b, c, d]) := glN (by show 4 ≤ 1000; omega)
theorem gl5 (a b c d e : D) : gLst [a, b, c, d, e] = some (.lst [a, b, c, d, e]) := glN (by show 5 ≤ 1000; omega)
theorem gl6 (a b c d e f : D) : gLst [a, b, c, d, e, f] = some (.lst [a, b, c, d, e, f]) := glN (by show 6 ≤ 1000; omega)
theorem same_it : F__law_same [.tup [.str "InvalidTerm", .int 0], .tup [.str "InvalidTerm", .int 0]] = .ok (.bl true, []) := same_ok (by kernel_rfl)
theorem same_16 : F__law_same [.tup [.str "TooMany", .int 16], .tup [.str "TooMany", .int 16]] = .ok (.bl true, []) := same_ok (by kernel_rfl)
theorem same_400 : F__law_same [.tup [.str "TooMany", .int 400], .tup [.str "TooMany", .int 400]] = .ok (.bl true, []) := same_ok (by kernel_rfl)
theorem rb_term : Rb (.str "term") 20 0 := ⟨rfl, rfl, Nat.le_of_ble_eq_true (by kernel_rfl), Nat.le_refl _⟩
/-- the questions -/
theorem fin_ok {A X c : Option D} {n : Nat} {v : D} (w : WF n v) (hn : n ≤ 60) (hc : cnt n v ≤ 20000) : KB [] (T6s [A, c, some v, X]) = .ok (.bl true, []) := by
  have w60 := w.mono hn
  have c60 : cnt 60 v ≤ 20000 := by rw [cnt_mono w hn]; exact hc
  have nv := w.nice_
  have f60 : fits 20000 60 [v] 0 = true := by rw [fits_one w60]; exact decide_eq_true c60
  have eh := lheight_ok (P := 20000) (n := 60) (by omega) (by omega) nv f60
  have ec := count_ok 60 100 v w60 (by omega)
  have e7 : T6s = sSeq S6 (sSeq S7 S8) := rfl
  by_cases h16 : hg 60 [v] ≤ 16
  · have w16 := wf_low w60 h16
    have ce : cnt 60 v = cnt 16 v := cnt_mono w16 (by omega)
    have g16 : fits 20000 16 [v] 0 = true := by rw [fits_one w16]; exact decide_eq_true (by omega)
    have g0 : gGt (.int (hg 60 [v])) (.int 16) = some (.bl false) := by
      rw [gt_s]
      congr 2
      exact decide_eq_false (by omega)
    generalize hg 60 [v] = H at *
    have s6 : S6 [A, c, some v, X] = .ok (.nx, [A, c, some v, X]) := by
      simp only [f0_e, put_so, K1_ok, K1_er, f1_e, K2b_ok, K2b_er, K2_ok, K2_er, f2_e, KN_ok, KN_er, fN_e, aNil_e, KAb_ok, KAb_er, KA_ok, KA_er, aCons_e, fvO_so, fv_e, KT_ok, KT_er, tV_e, KNt_ok, KNt_er, tNt_e, KAn_ok, KAn_er, tAn_e, KOr_ok, KOr_er, tOr'_e, KIe_ok, KIe_er, fIf_e, tYs_e, KEa_ok, eAn_e, KEo_ok, eOr_e, KCh3_ok, KCh3_er, KCh2_ok, KChO_so, KCh1_ok, KCh1_er, fCh_e, sNx_e, sBk_e, sCt_e, sRetN_e, sRaise_e, KS_nx, KS_rt, KS_bk, KS_ct, KS_er, sSeq_e, KIf_ok, KIf_er, sIf_e, KG_ok, KG_er, sAsg_e, nxt_so, gNm_e, KR_ok, KR_er, sRet_e, KD_ok, KD_er, sDrop_e, KP_ok, sPar_e, KF_ok, KF_er, sFor_e, KOw_ok, KOw_er, sOwn_e, KnL_ok, KnL_er, nLst_e, lsO_so, lstAt_e, KoIo_so, KoI_ok, oIx_e, KoL_so, oLen_e, KoAo_so, KoA_ok, KoA_er, oApp_e, KoEo_so, KoE_ok, oExt_e, KsIo2_so, KsIo_so, KsI2_ok, KsI_ok, KsI_er, sSetI_e, KC2_ok, KC2_er, KC_ok, KC_er, fCall_e, KI2_ok, KIo_so, KI_ok, fCallIo_e, KnC2_ok, KnC_ok, KnC_er, nCall_e, KsQ_t, KsQ_l, KsQ_f, iSeq_e, KsE_t, KsE_l, iEn_e, KR1_ok, iRn1_e, KL_ok, KL_er, lstE_e, Kc1_ok, Kc1_er, compN_e, Kc2_ok, Kc2_er, compN2_e, fitL_so, KoP_ok, oPt_e, oNo_e, Ksl3_ok, Ksl3_er, Ksl2_ok, Ksl2_er, Ksl1_ok, Ksl1_er, fSl_e, KTy_ok, KTy_er, sTry_e, KB_rt, KB_nx, KB_er, runB_e, outs_nil, outs_0, gsNil_e, gsCons_e, gTp_t, S6, eh, g0, List.getElem?_cons_succ, List.getElem?_cons_zero, Bool.false_eq_true, if_false]
    rw [e7, sSeq_e, s6, KS_nx]
    by_cases h4 : cnt 16 v ≤ 400
    · have g4 : fits 400 16 [v] 0 = true := by rw [fits_one w16]; exact decide_eq_true h4
      have ed := derive_ok nv f60 g16 g4 w16
      have el := lslope_ok 16 100 v w16 (by omega)
      have rb := (RbL.cons (rb_term.mono (Nat.le_refl _) (Nat.zero_le _)) (.cons (slp_rb 16 v w16) .nil)).tup
      have es := same_ok (reprOk_of rb (by simp; omega) (by omega))
      have g1 : gGt (.int (cnt 60 v : Nat)) (.int 400) = some (.bl false) := by
        rw [gt_s]
        congr 2
        exact decide_eq_false (by omega)
      generalize slp 16 v = SL at *
      generalize cnt 60 v = CN at *
      have s7 : S7 [A, c, some v, X] = .ok (.nx, [A, c, some v, X]) := by
        simp only [f0_e, put_so, K1_ok, K1_er, f1_e, K2b_ok, K2b_er, K2_ok, K2_er, f2_e, KN_ok, KN_er, fN_e, aNil_e, KAb_ok, KAb_er, KA_ok, KA_er, aCons_e, fvO_so, fv_e, KT_ok, KT_er, tV_e, KNt_ok, KNt_er, tNt_e, KAn_ok, KAn_er, tAn_e, KOr_ok, KOr_er, tOr'_e, KIe_ok, KIe_er, fIf_e, tYs_e, KEa_ok, eAn_e, KEo_ok, eOr_e, KCh3_ok, KCh3_er, KCh2_ok, KChO_so, KCh1_ok, KCh1_er, fCh_e, sNx_e, sBk_e, sCt_e, sRetN_e, sRaise_e, KS_nx, KS_rt, KS_bk, KS_ct, KS_er, sSeq_e, KIf_ok, KIf_er, sIf_e, KG_ok, KG_er, sAsg_e, nxt_so, gNm_e, KR_ok, KR_er, sRet_e, KD_ok, KD_er, sDrop_e, KP_ok, sPar_e, KF_ok, KF_er, sFor_e, KOw_ok, KOw_er, sOwn_e, KnL_ok, KnL_er, nLst_e, lsO_so, lstAt_e, KoIo_so, KoI_ok, oIx_e, KoL_so, oLen_e, KoAo_so, KoA_ok, KoA_er, oApp_e, KoEo_so, KoE_ok, oExt_e, KsIo2_so, KsIo_so, KsI2_ok, KsI_ok, KsI_er, sSetI_e, KC2_ok, KC2_er, KC_ok, KC_er, fCall_e, KI2_ok, KIo_so, KI_ok, fCallIo_e, KnC2_ok, KnC_ok, KnC_er, nCall_e, KsQ_t, KsQ_l, KsQ_f, iSeq_e, KsE_t, KsE_l, iEn_e, KR1_ok, iRn1_e, KL_ok, KL_er, lstE_e, Kc1_ok, Kc1_er, compN_e, Kc2_ok, Kc2_er, compN2_e, fitL_so, KoP_ok, oPt_e, oNo_e, Ksl3_ok, Ksl3_er, Ksl2_ok, Ksl2_er, Ksl1_ok, Ksl1_er, fSl_e, KTy_ok, KTy_er, sTry_e, KB_rt, KB_nx, KB_er, runB_e, outs_nil, outs_0, gsNil_e, gsCons_e, gTp_t, S7, ec, g1, List.getElem?_cons_succ, List.getElem?_cons_zero, Bool.false_eq_true, if_false]
      have s8 : S8 [A, c, some v, X] = .ok (.rt (.bl true), [A, c, some v, X]) := by
        simp only [f0_e, put_so, K1_ok, K1_er, f1_e, K2b_ok, K2b_er, K2_ok, K2_er, f2_e, KN_ok, KN_er, fN_e, aNil_e, KAb_ok, KAb_er, KA_ok, KA_er, aCons_e, fvO_so, fv_e, KT_ok, KT_er, tV_e, KNt_ok, KNt_er, tNt_e, KAn_ok, KAn_er, tAn_e, KOr_ok, KOr_er, tOr'_e, KIe_ok, KIe_er, fIf_e, tYs_e, KEa_ok, eAn_e, KEo_ok, eOr_e, KCh3_ok, KCh3_er, KCh2_ok, KChO_so, KCh1_ok, KCh1_er, fCh_e, sNx_e, sBk_e, sCt_e, sRetN_e, sRaise_e, KS_nx, KS_rt, KS_bk, KS_ct, KS_er, sSeq_e, KIf_ok, KIf_er, sIf_e, KG_ok, KG_er, sAsg_e, nxt_so, gNm_e, KR_ok, KR_er, sRet_e, KD_ok, KD_er, sDrop_e, KP_ok, sPar_e, KF_ok, KF_er, sFor_e, KOw_ok, KOw_er, sOwn_e, KnL_ok, KnL_er, nLst_e, lsO_so, lstAt_e, KoIo_so, KoI_ok, oIx_e, KoL_so, oLen_e, KoAo_so, KoA_ok, KoA_er, oApp_e, KoEo_so, KoE_ok, oExt_e, KsIo2_so, KsIo_so, KsI2_ok, KsI_ok, KsI_er, sSetI_e, KC2_ok, KC2_er, KC_ok, KC_er, fCall_e, KI2_ok, KIo_so, KI_ok, fCallIo_e, KnC2_ok, KnC_ok, KnC_er, nCall_e, KsQ_t, KsQ_l, KsQ_f, iSeq_e, KsE_t, KsE_l, iEn_e, KR1_ok, iRn1_e, KL_ok, KL_er, lstE_e, Kc1_ok, Kc1_er, compN_e, Kc2_ok, Kc2_er, compN2_e, fitL_so, KoP_ok, oPt_e, oNo_e, Ksl3_ok, Ksl3_er, Ksl2_ok, Ksl2_er, Ksl1_ok, Ksl1_er, fSl_e, KTy_ok, KTy_er, sTry_e, KB_rt, KB_nx, KB_er, runB_e, outs_nil, outs_0, gsNil_e, gsCons_e, gTp_t, S8, ed, el, es, gt_2, List.getElem?_cons_succ, List.getElem?_cons_zero]
      rw [sSeq_e, s7, KS_nx, s8] <;> rfl
    · have g4 : fits 400 16 [v] 0 = false := by rw [fits_one w16]; exact decide_eq_false h4
      have ed := derive_400 nv f60 g16 g4
      have es := same_400
      have g1 : gGt (.int (cnt 60 v : Nat)) (.int 400) = some (.bl true) := by
        rw [gt_s]
        congr 2
        exact decide_eq_true (by omega)
      generalize cnt 60 v = CN at *
      have s7 : S7 [A, c, some v, X] = .ok (.rt (.bl true), [A, c, some v, X]) := by
        simp only [f0_e, put_so, K1_ok, K1_er, f1_e, K2b_ok, K2b_er, K2_ok, K2_er, f2_e, KN_ok, KN_er, fN_e, aNil_e, KAb_ok, KAb_er, KA_ok, KA_er, aCons_e, fvO_so, fv_e, KT_ok, KT_er, tV_e, KNt_ok, KNt_er, tNt_e, KAn_ok, KAn_er, tAn_e, KOr_ok, KOr_er, tOr'_e, KIe_ok, KIe_er, fIf_e, tYs_e, KEa_ok, eAn_e, KEo_ok, eOr_e, KCh3_ok, KCh3_er, KCh2_ok, KChO_so, KCh1_ok, KCh1_er, fCh_e, sNx_e, sBk_e, sCt_e, sRetN_e, sRaise_e, KS_nx, KS_rt, KS_bk, KS_ct, KS_er, sSeq_e, KIf_ok, KIf_er, sIf_e, KG_ok, KG_er, sAsg_e, nxt_so, gNm_e, KR_ok, KR_er, sRet_e, KD_ok, KD_er, sDrop_e, KP_ok, sPar_e, KF_ok, KF_er, sFor_e, KOw_ok, KOw_er, sOwn_e, KnL_ok, KnL_er, nLst_e, lsO_so, lstAt_e, KoIo_so, KoI_ok, oIx_e, KoL_so, oLen_e, KoAo_so, KoA_ok, KoA_er, oApp_e, KoEo_so, KoE_ok, oExt_e, KsIo2_so, KsIo_so, KsI2_ok, KsI_ok, KsI_er, sSetI_e, KC2_ok, KC2_er, KC_ok, KC_er, fCall_e, KI2_ok, KIo_so, KI_ok, fCallIo_e, KnC2_ok, KnC_ok, KnC_er, nCall_e, KsQ_t, KsQ_l, KsQ_f, iSeq_e, KsE_t, KsE_l, iEn_e, KR1_ok, iRn1_e, KL_ok, KL_er, lstE_e, Kc1_ok, Kc1_er, compN_e, Kc2_ok, Kc2_er, compN2_e, fitL_so, KoP_ok, oPt_e, oNo_e, Ksl3_ok, Ksl3_er, Ksl2_ok, Ksl2_er, Ksl1_ok, Ksl1_er, fSl_e, KTy_ok, KTy_er, sTry_e, KB_rt, KB_nx, KB_er, runB_e, outs_nil, outs_0, gsNil_e, gsCons_e, gTp_t, S7, ec, ed, es, g1, gt_2, List.getElem?_cons_succ, List.getElem?_cons_zero, if_true]
      rw [sSeq_e, s7, KS_rt] <;> rfl
  · have g16 : fits 20000 16 [v] 0 = false := fits_high w60 (by omega)
    have ed := derive_16 nv f60 g16
    have es := same_16
    have g0 : gGt (.int (hg 60 [v])) (.int 16) = some (.bl true) := by
      rw [gt_s]
      congr 2
      exact decide_eq_true (by omega)
    generalize hg 60 [v] = H at *
    have s6 : S6 [A, c, some v, X] = .ok (.rt (.bl true), [A, c, some v, X]) := by
      simp only [f0_e, put_so, K1_ok, K1_er, f1_e, K2b_ok, K2b_er, K2_ok, K2_er, f2_e, KN_ok, KN_er, fN_e, aNil_e, KAb_ok, KAb_er, KA_ok, KA_er, aCons_e, fvO_so, fv_e, KT_ok, KT_er, tV_e, KNt_ok, KNt_er, tNt_e, KAn_ok, KAn_er, tAn_e, KOr_ok, KOr_er, tOr'_e, KIe_ok, KIe_er, fIf_e, tYs_e, KEa_ok, eAn_e, KEo_ok, eOr_e, KCh3_ok, KCh3_er, KCh2_ok, KChO_so, KCh1_ok, KCh1_er, fCh_e, sNx_e, sBk_e, sCt_e, sRetN_e, sRaise_e, KS_nx, KS_rt, KS_bk, KS_ct, KS_er, sSeq_e, KIf_ok, KIf_er, sIf_e, KG_ok, KG_er, sAsg_e, nxt_so, gNm_e, KR_ok, KR_er, sRet_e, KD_ok, KD_er, sDrop_e, KP_ok, sPar_e, KF_ok, KF_er, sFor_e, KOw_ok, KOw_er, sOwn_e, KnL_ok, KnL_er, nLst_e, lsO_so, lstAt_e, KoIo_so, KoI_ok, oIx_e, KoL_so, oLen_e, KoAo_so, KoA_ok, KoA_er, oApp_e, KoEo_so, KoE_ok, oExt_e, KsIo2_so, KsIo_so, KsI2_ok, KsI_ok, KsI_er, sSetI_e, KC2_ok, KC2_er, KC_ok, KC_er, fCall_e, KI2_ok, KIo_so, KI_ok, fCallIo_e, KnC2_ok, KnC_ok, KnC_er, nCall_e, KsQ_t, KsQ_l, KsQ_f, iSeq_e, KsE_t, KsE_l, iEn_e, KR1_ok, iRn1_e, KL_ok, KL_er, lstE_e, Kc1_ok, Kc1_er, compN_e, Kc2_ok, Kc2_er, compN2_e, fitL_so, KoP_ok, oPt_e, oNo_e, Ksl3_ok, Ksl3_er, Ksl2_ok, Ksl2_er, Ksl1_ok, Ksl1_er, fSl_e, KTy_ok, KTy_er, sTry_e, KB_rt, KB_nx, KB_er, runB_e, outs_nil, outs_0, gsNil_e, gsCons_e, gTp_t, S6, eh, ed, es, g0, gt_2, List.getElem?_cons_succ, List.getElem?_cons_zero, if_true]
    rw [e7, sSeq_e, s6, KS_rt] <;> rfl
/-- something odd is put in, or not -/
theorem put_in {A X : Option D} {n : Nat} {c v : D} (hc : CupOk c) (w : WF n v) (hn : n ≤ 60) (hv : cnt n v ≤ 20000) : KB [] (T5s [A, some c, some v, X]) = .ok (.bl true, []) := by
  obtain ⟨r, c1, e1, r0, r1, hc1⟩ := roll_ok 8 hc (by omega)
  have e7 : T5s = sSeq S5 T6s := rfl
  by_cases h : r = 0
  · subst h
    obtain ⟨ps, c2, e2, hc2, ip, lp, wy⟩ := path_ok hc1 w
    obtain ⟨d, c3, e3, nd, gd, hc3⟩ := odd_ok hc2
    have bd : Bad d := fun m hm => by
      have := hm.good_
      rw [gd] at this
      cases this
    obtain ⟨e, e4, ne, be⟩ := put_ok ps n 100 v d ip (by omega) w nd bd
    have fe : fits 20000 60 [e] 0 = false := by
      cases f : fits 20000 60 [e] 0 with
      | false => rfl
      | true => exact (be wy 60 (wf_of_fits 60 [e] 0 (fun x m => (List.mem_singleton.mp m) ▸ ne) f e (List.mem_singleton.mpr rfl))).elim
    have ed := derive_no ne fe
    have es := same_it
    have z := eq00
    have s : S5 [A, some c, some v, X] = .ok (.rt (.bl true), [A, some c3, some v, X]) := by
      simp only [f0_e, put_so, K1_ok, K1_er, f1_e, K2b_ok, K2b_er, K2_ok, K2_er, f2_e, KN_ok, KN_er, fN_e, aNil_e, KAb_ok, KAb_er, KA_ok, KA_er, aCons_e, fvO_so, fv_e, KT_ok, KT_er, tV_e, KNt_ok, KNt_er, tNt_e, KAn_ok, KAn_er, tAn_e, KOr_ok, KOr_er, tOr'_e, KIe_ok, KIe_er, fIf_e, tYs_e, KEa_ok, eAn_e, KEo_ok, eOr_e, KCh3_ok, KCh3_er, KCh2_ok, KChO_so, KCh1_ok, KCh1_er, fCh_e, sNx_e, sBk_e, sCt_e, sRetN_e, sRaise_e, KS_nx, KS_rt, KS_bk, KS_ct, KS_er, sSeq_e, KIf_ok, KIf_er, sIf_e, KG_ok, KG_er, sAsg_e, nxt_so, gNm_e, KR_ok, KR_er, sRet_e, KD_ok, KD_er, sDrop_e, KP_ok, sPar_e, KF_ok, KF_er, sFor_e, KOw_ok, KOw_er, sOwn_e, KnL_ok, KnL_er, nLst_e, lsO_so, lstAt_e, KoIo_so, KoI_ok, oIx_e, KoL_so, oLen_e, KoAo_so, KoA_ok, KoA_er, oApp_e, KoEo_so, KoE_ok, oExt_e, KsIo2_so, KsIo_so, KsI2_ok, KsI_ok, KsI_er, sSetI_e, KC2_ok, KC2_er, KC_ok, KC_er, fCall_e, KI2_ok, KIo_so, KI_ok, fCallIo_e, KnC2_ok, KnC_ok, KnC_er, nCall_e, KsQ_t, KsQ_l, KsQ_f, iSeq_e, KsE_t, KsE_l, iEn_e, KR1_ok, iRn1_e, KL_ok, KL_er, lstE_e, Kc1_ok, Kc1_er, compN_e, Kc2_ok, Kc2_er, compN2_e, fitL_so, KoP_ok, oPt_e, oNo_e, Ksl3_ok, Ksl3_er, Ksl2_ok, Ksl2_er, Ksl1_ok, Ksl1_er, fSl_e, KTy_ok, KTy_er, sTry_e, KB_rt, KB_nx, KB_er, runB_e, outs_nil, outs_0, gsNil_e, gsCons_e, gTp_t, S5, e1, z, e2, e3, e4, ed, es, gt_2, List.getElem?_cons_succ, List.getElem?_cons_zero, List.set_cons_succ, List.set_cons_zero, if_true]
    rw [e7, sSeq_e, s, KS_rt] <;> rfl
  · have z := eq0 h
    have s : S5 [A, some c, some v, X] = .ok (.nx, [A, some c1, some v, X]) := by
      simp only [f0_e, put_so, K1_ok, K1_er, f1_e, K2b_ok, K2b_er, K2_ok, K2_er, f2_e, KN_ok, KN_er, fN_e, aNil_e, KAb_ok, KAb_er, KA_ok, KA_er, aCons_e, fvO_so, fv_e, KT_ok, KT_er, tV_e, KNt_ok, KNt_er, tNt_e, KAn_ok, KAn_er, tAn_e, KOr_ok, KOr_er, tOr'_e, KIe_ok, KIe_er, fIf_e, tYs_e, KEa_ok, eAn_e, KEo_ok, eOr_e, KCh3_ok, KCh3_er, KCh2_ok, KChO_so, KCh1_ok, KCh1_er, fCh_e, sNx_e, sBk_e, sCt_e, sRetN_e, sRaise_e, KS_nx, KS_rt, KS_bk, KS_ct, KS_er, sSeq_e, KIf_ok, KIf_er, sIf_e, KG_ok, KG_er, sAsg_e, nxt_so, gNm_e, KR_ok, KR_er, sRet_e, KD_ok, KD_er, sDrop_e, KP_ok, sPar_e, KF_ok, KF_er, sFor_e, KOw_ok, KOw_er, sOwn_e, KnL_ok, KnL_er, nLst_e, lsO_so, lstAt_e, KoIo_so, KoI_ok, oIx_e, KoL_so, oLen_e, KoAo_so, KoA_ok, KoA_er, oApp_e, KoEo_so, KoE_ok, oExt_e, KsIo2_so, KsIo_so, KsI2_ok, KsI_ok, KsI_er, sSetI_e, KC2_ok, KC2_er, KC_ok, KC_er, fCall_e, KI2_ok, KIo_so, KI_ok, fCallIo_e, KnC2_ok, KnC_ok, KnC_er, nCall_e, KsQ_t, KsQ_l, KsQ_f, iSeq_e, KsE_t, KsE_l, iEn_e, KR1_ok, iRn1_e, KL_ok, KL_er, lstE_e, Kc1_ok, Kc1_er, compN_e, Kc2_ok, Kc2_er, compN2_e, fitL_so, KoP_ok, oPt_e, oNo_e, Ksl3_ok, Ksl3_er, Ksl2_ok, Ksl2_er, Ksl1_ok, Ksl1_er, fSl_e, KTy_ok, KTy_er, sTry_e, KB_rt, KB_nx, KB_er, runB_e, outs_nil, outs_0, gsNil_e, gsCons_e, gTp_t, S5, e1, z, List.getElem?_cons_succ, List.getElem?_cons_zero, List.set_cons_succ, List.set_cons_zero, Bool.false_eq_true, if_false]
    rw [e7, sSeq_e, s, KS_nx]
    exact fin_ok w hn hv
theorem cnt_small : ∀ (n : Nat) (d : D), WF n d → cnt n d + 1 ≤ 2 ^ n
  | 0, _, h => h.elim
  | n + 1, d, h => by
    have l2 := (parts_ok h.nice_ h.good_).2.2.2
    have ih : ∀ p ∈ within d, cnt n p + 1 ≤ 2 ^ n := fun p m => cnt_small n p (h.2.2 p m)
    show 1 + ((within d).map (cnt n)).sum + 1 ≤ 2 ^ (n + 1)
    rw [Nat.pow_succ]
    have p1 : 1 ≤ 2 ^ n := Nat.one_le_pow n 2 (by omega)
    generalize within d = W at *
    match W, l2, ih with
    | [], _, _ => simp; omega
    | [a], _, ih =>
      have := ih a (by simp)
      simp
      omega
    | [a, b], _, ih =>
      have := ih a (by simp)
      have := ih b (by simp)
      simp
      omega
    | _ :: _ :: _ :: _, l2, _ => simp at l2
theorem cnt_pos {n : Nat} {d : D} (w : WF n d) : 1 ≤ cnt n d := by
  cases n with
  | zero => exact w.elim
  | succ n =>
    show 1 ≤ 1 + _
    omega
/-- twice, some times -/
abbrev dblB : SD := (sAsg (fN gTup (aCons (fCallIo 1 F__law_some (aCons (fN gLst (aCons (f0 (.str "plus")) (aCons (f0 (.str "minus")) aNil))) aNil)) (aCons (fv 2) (aCons (fCallIo 1 F__law_some (aCons (fN gLst (aCons (fv 2) (aCons (fN gTup (aCons (f0 (.str "x")) aNil)) aNil))) aNil)) aNil)))) (gNm 2))
theorem dbl_loop {A : Option D} : ∀ (ds : List D) (n : Nat) (c v : D) (X : Option D), CupOk c → WF n v → ∃ c' v' X', forD (gNm 3) dblB ds [A, some c, some v, X] = .ok (.nx, [A, some c', some v', X']) ∧ CupOk c' ∧ WF (n + ds.length) v' ∧ cnt (n + ds.length) v' + 1 ≤ (cnt n v + 1) * 2 ^ ds.length
  | [], n, c, v, X, hc, w => ⟨c, v, X, rfl, hc, w, by simp⟩
  | d :: ds, n, c, v, X, hc, w => by
    obtain ⟨q, c1, e1, m, hc1⟩ := some_ok (xs := [.str "plus", .str "minus"]) hc (by simp) (by simp)
    obtain ⟨s, rfl, hs⟩ : ∃ s, q = .str s ∧ s ∈ PAIRS := by
      simp only [List.mem_cons, List.not_mem_nil, or_false] at m
      rcases m with rfl | rfl <;> exact ⟨_, rfl, by decide +kernel⟩
    obtain ⟨u, c2, e2, mu, hc2⟩ := some_ok (xs := [v, .tup [.str "x"]]) hc1 (by simp) (by simp)
    have cv := cnt_pos w
    obtain ⟨wu, cu⟩ : WF n u ∧ cnt n u ≤ cnt n v := by
      simp only [List.mem_cons, List.not_mem_nil, or_false] at mu
      rcases mu with rfl | rfl
      · exact ⟨w, Nat.le_refl _⟩
      · cases n with
        | zero => exact w.elim
        | succ n =>
          have e : cnt (n + 1) (.tup [.str "x"]) = 1 := by kernel_rfl
          exact ⟨wf_x n, by rw [e]; exact cv⟩
    have g := gl2 (.str "plus") (.str "minus")
    have g2 := gl2 v (.tup [.str "x"])
    have g3 := gt_1 (.str "x")
    have e3 : dblB [A, some c, some v, some d] = .ok (.nx, [A, some c2, some (.tup [.str s, v, u]), some d]) := by
      simp only [f0_e, put_so, K1_ok, K1_er, f1_e, K2b_ok, K2b_er, K2_ok, K2_er, f2_e, KN_ok, KN_er, fN_e, aNil_e, KAb_ok, KAb_er, KA_ok, KA_er, aCons_e, fvO_so, fv_e, KT_ok, KT_er, tV_e, KNt_ok, KNt_er, tNt_e, KAn_ok, KAn_er, tAn_e, KOr_ok, KOr_er, tOr'_e, KIe_ok, KIe_er, fIf_e, tYs_e, KEa_ok, eAn_e, KEo_ok, eOr_e, KCh3_ok, KCh3_er, KCh2_ok, KChO_so, KCh1_ok, KCh1_er, fCh_e, sNx_e, sBk_e, sCt_e, sRetN_e, sRaise_e, KS_nx, KS_rt, KS_bk, KS_ct, KS_er, sSeq_e, KIf_ok, KIf_er, sIf_e, KG_ok, KG_er, sAsg_e, nxt_so, gNm_e, KR_ok, KR_er, sRet_e, KD_ok, KD_er, sDrop_e, KP_ok, sPar_e, KF_ok, KF_er, sFor_e, KOw_ok, KOw_er, sOwn_e, KnL_ok, KnL_er, nLst_e, lsO_so, lstAt_e, KoIo_so, KoI_ok, oIx_e, KoL_so, oLen_e, KoAo_so, KoA_ok, KoA_er, oApp_e, KoEo_so, KoE_ok, oExt_e, KsIo2_so, KsIo_so, KsI2_ok, KsI_ok, KsI_er, sSetI_e, KC2_ok, KC2_er, KC_ok, KC_er, fCall_e, KI2_ok, KIo_so, KI_ok, fCallIo_e, KnC2_ok, KnC_ok, KnC_er, nCall_e, KsQ_t, KsQ_l, KsQ_f, iSeq_e, KsE_t, KsE_l, iEn_e, KR1_ok, iRn1_e, KL_ok, KL_er, lstE_e, Kc1_ok, Kc1_er, compN_e, Kc2_ok, Kc2_er, compN2_e, fitL_so, KoP_ok, oPt_e, oNo_e, Ksl3_ok, Ksl3_er, Ksl2_ok, Ksl2_er, Ksl1_ok, Ksl1_er, fSl_e, KTy_ok, KTy_er, sTry_e, KB_rt, KB_nx, KB_er, runB_e, outs_nil, outs_0, gsNil_e, gsCons_e, gTp_t, dblB, g, g2, g3, e1, e2, gt_3, List.getElem?_cons_succ, List.getElem?_cons_zero, List.set_cons_succ, List.set_cons_zero]
    have w3 := wf_two n hs w wu
    have c3 : cnt (n + 1) (.tup [.str s, v, u]) = 1 + (cnt n v + cnt n u) := by
      have wi : within (.tup [.str s, v, u]) = [v, u] := by rcases pairs_cases hs with rfl | rfl | rfl | rfl <;> kernel_rfl
      show 1 + ((within (.tup [.str s, v, u])).map (cnt n)).sum = _
      rw [wi]
      simp
    obtain ⟨c', v', X', q1, q2, q3, q4⟩ := dbl_loop (A := A) ds (n + 1) c2 (.tup [.str s, v, u]) (some d) hc2 w3
    have en : n + (d :: ds).length = n + 1 + ds.length := by rw [List.length_cons]; omega
    refine ⟨c', v', X', ?_, q2, by rw [en]; exact q3, ?_⟩
    · show ((dblB [A, some c, some v, some d]).bind fun p => match p.1 with
        | .nx => forD (gNm 3) dblB ds p.2
        | .ct => forD (gNm 3) dblB ds p.2
        | .bk => .ok (.nx, p.2)
        | .rt d => .ok (.rt d, p.2)) = _
      rw [e3]
      exact q1
    · rw [en, List.length_cons, Nat.pow_succ]
      refine Nat.le_trans q4 ?_
      rw [c3, Nat.mul_comm (2 ^ ds.length) 2, ← Nat.mul_assoc]
      exact Nat.mul_le_mul_right _ (by omega)
theorem rng_of {k : Int} (h0 : 0 ≤ k) (h1 : k ≤ 100) : rngOk k = true ∧ ∃ R, rngD 0 k = R ∧ (R.length : Int) = k := by
  refine ⟨?_, _, rfl, ?_⟩
  · unfold rngOk
    rw [Bool.and_eq_true]
    exact ⟨decide_eq_true (by omega), decide_eq_true (by omega)⟩
  · unfold rngD
    rw [List.length_map, List.length_range]
    omega
theorem doubles {A X : Option D} {n : Nat} {c v : D} (hc : CupOk c) (w : WF n v) (hn : n ≤ 22) (hv : cnt n v ≤ 79) : KB [] (T4s [A, some c, some v, X]) = .ok (.bl true, []) := by
  obtain ⟨r, c1, e1, r0, r1, hc1⟩ := roll_ok 16 hc (by omega)
  have e7 : T4s = sSeq S4 T5s := rfl
  by_cases h : r = 0
  · subst h
    obtain ⟨q, c2, e2, m, hc2⟩ := some_ok (xs := [.int 4, .int 5, .int 6, .int 7]) hc1 (by simp) (by simp)
    obtain ⟨k, rfl, k0, k1⟩ : ∃ k : Int, q = .int k ∧ 0 ≤ k ∧ k ≤ 7 := by
      simp only [List.mem_cons, List.not_mem_nil, or_false] at m
      rcases m with rfl | rfl | rfl | rfl <;> exact ⟨_, rfl, by omega, by omega⟩
    obtain ⟨ro, R, hR, lR⟩ := rng_of k0 (show k ≤ 100 by omega)
    obtain ⟨c3, v3, X3, q1, hc3, w3, t3⟩ := dbl_loop (A := A) R n c2 v X hc2 w
    have g4 := gl4 (.int 4) (.int 5) (.int 6) (.int 7)
    have z := eq00
    have e8 : S4 = sIf (tV (f2 gEq (fCallIo 1 F__law_roll (aCons (f0 (.int 16)) aNil)) (f0 (.int 0)))) (sFor (iRn1 (aCons (fCallIo 1 F__law_some (aCons (fN gLst (aCons (f0 (.int 4)) (aCons (f0 (.int 5)) (aCons (f0 (.int 6)) (aCons (f0 (.int 7)) aNil))))) aNil)) aNil)) (gNm 3) dblB) sNx := rfl
    have s : S4 [A, some c, some v, X] = .ok (.nx, [A, some c3, some v3, X3]) := by
      rw [e8]
      generalize dblB = B at *
      simp only [f0_e, put_so, K1_ok, K1_er, f1_e, K2b_ok, K2b_er, K2_ok, K2_er, f2_e, KN_ok, KN_er, fN_e, aNil_e, KAb_ok, KAb_er, KA_ok, KA_er, aCons_e, fvO_so, fv_e, KT_ok, KT_er, tV_e, KNt_ok, KNt_er, tNt_e, KAn_ok, KAn_er, tAn_e, KOr_ok, KOr_er, tOr'_e, KIe_ok, KIe_er, fIf_e, tYs_e, KEa_ok, eAn_e, KEo_ok, eOr_e, KCh3_ok, KCh3_er, KCh2_ok, KChO_so, KCh1_ok, KCh1_er, fCh_e, sNx_e, sBk_e, sCt_e, sRetN_e, sRaise_e, KS_nx, KS_rt, KS_bk, KS_ct, KS_er, sSeq_e, KIf_ok, KIf_er, sIf_e, KG_ok, KG_er, sAsg_e, nxt_so, gNm_e, KR_ok, KR_er, sRet_e, KD_ok, KD_er, sDrop_e, KP_ok, sPar_e, KF_ok, KF_er, sFor_e, KOw_ok, KOw_er, sOwn_e, KnL_ok, KnL_er, nLst_e, lsO_so, lstAt_e, KoIo_so, KoI_ok, oIx_e, KoL_so, oLen_e, KoAo_so, KoA_ok, KoA_er, oApp_e, KoEo_so, KoE_ok, oExt_e, KsIo2_so, KsIo_so, KsI2_ok, KsI_ok, KsI_er, sSetI_e, KC2_ok, KC2_er, KC_ok, KC_er, fCall_e, KI2_ok, KIo_so, KI_ok, fCallIo_e, KnC2_ok, KnC_ok, KnC_er, nCall_e, KsQ_t, KsQ_l, KsQ_f, iSeq_e, KsE_t, KsE_l, iEn_e, KR1_ok, iRn1_e, KL_ok, KL_er, lstE_e, Kc1_ok, Kc1_er, compN_e, Kc2_ok, Kc2_er, compN2_e, fitL_so, KoP_ok, oPt_e, oNo_e, Ksl3_ok, Ksl3_er, Ksl2_ok, Ksl2_er, Ksl1_ok, Ksl1_er, fSl_e, KTy_ok, KTy_er, sTry_e, KB_rt, KB_nx, KB_er, runB_e, outs_nil, outs_0, gsNil_e, gsCons_e, gTp_t, e1, z, g4, e2, ro, hR, q1, List.getElem?_cons_succ, List.getElem?_cons_zero, List.set_cons_succ, List.set_cons_zero, if_true]
    rw [e7, sSeq_e, s, KS_nx]
    have l7 : R.length ≤ 7 := by omega
    have p7 : 2 ^ R.length ≤ 2 ^ 7 := Nat.pow_le_pow_right (by omega) l7
    have b : (cnt n v + 1) * 2 ^ R.length ≤ 80 * 2 ^ 7 := Nat.mul_le_mul (by omega) p7
    exact put_in hc3 w3 (by omega) (by omega)
  · have z := eq0 h
    have s : S4 [A, some c, some v, X] = .ok (.nx, [A, some c1, some v, X]) := by
      simp only [f0_e, put_so, K1_ok, K1_er, f1_e, K2b_ok, K2b_er, K2_ok, K2_er, f2_e, KN_ok, KN_er, fN_e, aNil_e, KAb_ok, KAb_er, KA_ok, KA_er, aCons_e, fvO_so, fv_e, KT_ok, KT_er, tV_e, KNt_ok, KNt_er, tNt_e, KAn_ok, KAn_er, tAn_e, KOr_ok, KOr_er, tOr'_e, KIe_ok, KIe_er, fIf_e, tYs_e, KEa_ok, eAn_e, KEo_ok, eOr_e, KCh3_ok, KCh3_er, KCh2_ok, KChO_so, KCh1_ok, KCh1_er, fCh_e, sNx_e, sBk_e, sCt_e, sRetN_e, sRaise_e, KS_nx, KS_rt, KS_bk, KS_ct, KS_er, sSeq_e, KIf_ok, KIf_er, sIf_e, KG_ok, KG_er, sAsg_e, nxt_so, gNm_e, KR_ok, KR_er, sRet_e, KD_ok, KD_er, sDrop_e, KP_ok, sPar_e, KF_ok, KF_er, sFor_e, KOw_ok, KOw_er, sOwn_e, KnL_ok, KnL_er, nLst_e, lsO_so, lstAt_e, KoIo_so, KoI_ok, oIx_e, KoL_so, oLen_e, KoAo_so, KoA_ok, KoA_er, oApp_e, KoEo_so, KoE_ok, oExt_e, KsIo2_so, KsIo_so, KsI2_ok, KsI_ok, KsI_er, sSetI_e, KC2_ok, KC2_er, KC_ok, KC_er, fCall_e, KI2_ok, KIo_so, KI_ok, fCallIo_e, KnC2_ok, KnC_ok, KnC_er, nCall_e, KsQ_t, KsQ_l, KsQ_f, iSeq_e, KsE_t, KsE_l, iEn_e, KR1_ok, iRn1_e, KL_ok, KL_er, lstE_e, Kc1_ok, Kc1_er, compN_e, Kc2_ok, Kc2_er, compN2_e, fitL_so, KoP_ok, oPt_e, oNo_e, Ksl3_ok, Ksl3_er, Ksl2_ok, Ksl2_er, Ksl1_ok, Ksl1_er, fSl_e, KTy_ok, KTy_er, sTry_e, KB_rt, KB_nx, KB_er, runB_e, outs_nil, outs_0, gsNil_e, gsCons_e, gTp_t, S4, e1, z, List.getElem?_cons_succ, List.getElem?_cons_zero, List.set_cons_succ, List.set_cons_zero, Bool.false_eq_true, if_false]
    rw [e7, sSeq_e, s, KS_nx]
    exact put_in hc1 w (by omega) (by omega)
/-- some wraps -/
abbrev wrapB : SD := (sAsg (fN gTup (aCons (fCallIo 1 F__law_some (aCons (fN gLst (aCons (f0 (.str "negative")) (aCons (f0 (.str "exp")) (aCons (f0 (.str "log")) aNil)))) aNil)) (aCons (fv 2) aNil))) (gNm 2))
theorem wrap_loop {A : Option D} : ∀ (ds : List D) (n : Nat) (c v : D) (X : Option D), CupOk c → WF n v → ∃ c' v' X', forD (gNm 3) wrapB ds [A, some c, some v, X] = .ok (.nx, [A, some c', some v', X']) ∧ CupOk c' ∧ WF (n + ds.length) v' ∧ cnt (n + ds.length) v' = cnt n v + ds.length
  | [], n, c, v, X, hc, w => ⟨c, v, X, rfl, hc, w, by simp⟩
  | d :: ds, n, c, v, X, hc, w => by
    obtain ⟨q, c1, e1, m, hc1⟩ := some_ok (xs := [.str "negative", .str "exp", .str "log"]) hc (by simp) (by simp)
    obtain ⟨s, rfl, hs⟩ : ∃ s, q = .str s ∧ s ∈ ONES := by
      simp only [List.mem_cons, List.not_mem_nil, or_false] at m
      rcases m with rfl | rfl | rfl <;> exact ⟨_, rfl, by decide +kernel⟩
    have g := gl3 (.str "negative") (.str "exp") (.str "log")
    have e2 : wrapB [A, some c, some v, some d] = .ok (.nx, [A, some c1, some (.tup [.str s, v]), some d]) := by
      simp only [f0_e, put_so, K1_ok, K1_er, f1_e, K2b_ok, K2b_er, K2_ok, K2_er, f2_e, KN_ok, KN_er, fN_e, aNil_e, KAb_ok, KAb_er, KA_ok, KA_er, aCons_e, fvO_so, fv_e, KT_ok, KT_er, tV_e, KNt_ok, KNt_er, tNt_e, KAn_ok, KAn_er, tAn_e, KOr_ok, KOr_er, tOr'_e, KIe_ok, KIe_er, fIf_e, tYs_e, KEa_ok, eAn_e, KEo_ok, eOr_e, KCh3_ok, KCh3_er, KCh2_ok, KChO_so, KCh1_ok, KCh1_er, fCh_e, sNx_e, sBk_e, sCt_e, sRetN_e, sRaise_e, KS_nx, KS_rt, KS_bk, KS_ct, KS_er, sSeq_e, KIf_ok, KIf_er, sIf_e, KG_ok, KG_er, sAsg_e, nxt_so, gNm_e, KR_ok, KR_er, sRet_e, KD_ok, KD_er, sDrop_e, KP_ok, sPar_e, KF_ok, KF_er, sFor_e, KOw_ok, KOw_er, sOwn_e, KnL_ok, KnL_er, nLst_e, lsO_so, lstAt_e, KoIo_so, KoI_ok, oIx_e, KoL_so, oLen_e, KoAo_so, KoA_ok, KoA_er, oApp_e, KoEo_so, KoE_ok, oExt_e, KsIo2_so, KsIo_so, KsI2_ok, KsI_ok, KsI_er, sSetI_e, KC2_ok, KC2_er, KC_ok, KC_er, fCall_e, KI2_ok, KIo_so, KI_ok, fCallIo_e, KnC2_ok, KnC_ok, KnC_er, nCall_e, KsQ_t, KsQ_l, KsQ_f, iSeq_e, KsE_t, KsE_l, iEn_e, KR1_ok, iRn1_e, KL_ok, KL_er, lstE_e, Kc1_ok, Kc1_er, compN_e, Kc2_ok, Kc2_er, compN2_e, fitL_so, KoP_ok, oPt_e, oNo_e, Ksl3_ok, Ksl3_er, Ksl2_ok, Ksl2_er, Ksl1_ok, Ksl1_er, fSl_e, KTy_ok, KTy_er, sTry_e, KB_rt, KB_nx, KB_er, runB_e, outs_nil, outs_0, gsNil_e, gsCons_e, gTp_t, wrapB, g, e1, gt_2, List.getElem?_cons_succ, List.getElem?_cons_zero, List.set_cons_succ, List.set_cons_zero]
    have c3 : cnt (n + 1) (.tup [.str s, v]) = 1 + cnt n v := by
      have wi : within (.tup [.str s, v]) = [v] := by rcases ones_cases hs with rfl | rfl | rfl <;> kernel_rfl
      show 1 + ((within (.tup [.str s, v])).map (cnt n)).sum = _
      rw [wi]
      simp
    obtain ⟨c', v', X', q1, q2, q3, q4⟩ := wrap_loop (A := A) ds (n + 1) c1 (.tup [.str s, v]) (some d) hc1 (wf_one n hs w)
    have en : n + (d :: ds).length = n + 1 + ds.length := by rw [List.length_cons]; omega
    refine ⟨c', v', X', ?_, q2, by rw [en]; exact q3, by rw [en, q4, c3, List.length_cons]; omega⟩
    show ((wrapB [A, some c, some v, some d]).bind fun p => match p.1 with
      | .nx => forD (gNm 3) wrapB ds p.2
      | .ct => forD (gNm 3) wrapB ds p.2
      | .bk => .ok (.nx, p.2)
      | .rt d => .ok (.rt d, p.2)) = _
    rw [e2]
    exact q1
theorem wraps {A X : Option D} {n : Nat} {c v : D} (hc : CupOk c) (w : WF n v) (hn : n ≤ 6) : KB [] (T3s [A, some c, some v, X]) = .ok (.bl true, []) := by
  obtain ⟨r, c1, e1, r0, r1, hc1⟩ := roll_ok 16 hc (by omega)
  have e7 : T3s = sSeq S3 T4s := rfl
  have cs := cnt_small n v w
  have p6 : 2 ^ n ≤ 2 ^ 6 := Nat.pow_le_pow_right (by omega) hn
  by_cases h : r = 0
  · subst h
    obtain ⟨q, c2, e2, m, hc2⟩ := some_ok (xs := [.int 11, .int 12, .int 13, .int 14, .int 15, .int 16]) hc1 (by simp) (by simp)
    obtain ⟨k, rfl, k0, k1⟩ : ∃ k : Int, q = .int k ∧ 0 ≤ k ∧ k ≤ 16 := by
      simp only [List.mem_cons, List.not_mem_nil, or_false] at m
      rcases m with rfl | rfl | rfl | rfl | rfl | rfl <;> exact ⟨_, rfl, by omega, by omega⟩
    obtain ⟨ro, R, hR, lR⟩ := rng_of k0 (show k ≤ 100 by omega)
    obtain ⟨c3, v3, X3, q1, hc3, w3, t3⟩ := wrap_loop (A := A) R n c2 v X hc2 w
    have g6 := gl6 (.int 11) (.int 12) (.int 13) (.int 14) (.int 15) (.int 16)
    have z := eq00
    have e8 : S3 = sIf (tV (f2 gEq (fCallIo 1 F__law_roll (aCons (f0 (.int 16)) aNil)) (f0 (.int 0)))) (sFor (iRn1 (aCons (fCallIo 1 F__law_some (aCons (fN gLst (aCons (f0 (.int 11)) (aCons (f0 (.int 12)) (aCons (f0 (.int 13)) (aCons (f0 (.int 14)) (aCons (f0 (.int 15)) (aCons (f0 (.int 16)) aNil))))))) aNil)) aNil)) (gNm 3) wrapB) sNx := rfl
    have s : S3 [A, some c, some v, X] = .ok (.nx, [A, some c3, some v3, X3]) := by
      rw [e8]
      generalize wrapB = B at *
      simp only [f0_e, put_so, K1_ok, K1_er, f1_e, K2b_ok, K2b_er, K2_ok, K2_er, f2_e, KN_ok, KN_er, fN_e, aNil_e, KAb_ok, KAb_er, KA_ok, KA_er, aCons_e, fvO_so, fv_e, KT_ok, KT_er, tV_e, KNt_ok, KNt_er, tNt_e, KAn_ok, KAn_er, tAn_e, KOr_ok, KOr_er, tOr'_e, KIe_ok, KIe_er, fIf_e, tYs_e, KEa_ok, eAn_e, KEo_ok, eOr_e, KCh3_ok, KCh3_er, KCh2_ok, KChO_so, KCh1_ok, KCh1_er, fCh_e, sNx_e, sBk_e, sCt_e, sRetN_e, sRaise_e, KS_nx, KS_rt, KS_bk, KS_ct, KS_er, sSeq_e, KIf_ok, KIf_er, sIf_e, KG_ok, KG_er, sAsg_e, nxt_so, gNm_e, KR_ok, KR_er, sRet_e, KD_ok, KD_er, sDrop_e, KP_ok, sPar_e, KF_ok, KF_er, sFor_e, KOw_ok, KOw_er, sOwn_e, KnL_ok, KnL_er, nLst_e, lsO_so, lstAt_e, KoIo_so, KoI_ok, oIx_e, KoL_so, oLen_e, KoAo_so, KoA_ok, KoA_er, oApp_e, KoEo_so, KoE_ok, oExt_e, KsIo2_so, KsIo_so, KsI2_ok, KsI_ok, KsI_er, sSetI_e, KC2_ok, KC2_er, KC_ok, KC_er, fCall_e, KI2_ok, KIo_so, KI_ok, fCallIo_e, KnC2_ok, KnC_ok, KnC_er, nCall_e, KsQ_t, KsQ_l, KsQ_f, iSeq_e, KsE_t, KsE_l, iEn_e, KR1_ok, iRn1_e, KL_ok, KL_er, lstE_e, Kc1_ok, Kc1_er, compN_e, Kc2_ok, Kc2_er, compN2_e, fitL_so, KoP_ok, oPt_e, oNo_e, Ksl3_ok, Ksl3_er, Ksl2_ok, Ksl2_er, Ksl1_ok, Ksl1_er, fSl_e, KTy_ok, KTy_er, sTry_e, KB_rt, KB_nx, KB_er, runB_e, outs_nil, outs_0, gsNil_e, gsCons_e, gTp_t, e1, z, g6, e2, ro, hR, q1, List.getElem?_cons_succ, List.getElem?_cons_zero, List.set_cons_succ, List.set_cons_zero, if_true]
    rw [e7, sSeq_e, s, KS_nx]
    exact doubles hc3 w3 (by omega) (by omega)
  · have z := eq0 h
    have s : S3 [A, some c, some v, X] = .ok (.nx, [A, some c1, some v, X]) := by
      simp only [f0_e, put_so, K1_ok, K1_er, f1_e, K2b_ok, K2b_er, K2_ok, K2_er, f2_e, KN_ok, KN_er, fN_e, aNil_e, KAb_ok, KAb_er, KA_ok, KA_er, aCons_e, fvO_so, fv_e, KT_ok, KT_er, tV_e, KNt_ok, KNt_er, tNt_e, KAn_ok, KAn_er, tAn_e, KOr_ok, KOr_er, tOr'_e, KIe_ok, KIe_er, fIf_e, tYs_e, KEa_ok, eAn_e, KEo_ok, eOr_e, KCh3_ok, KCh3_er, KCh2_ok, KChO_so, KCh1_ok, KCh1_er, fCh_e, sNx_e, sBk_e, sCt_e, sRetN_e, sRaise_e, KS_nx, KS_rt, KS_bk, KS_ct, KS_er, sSeq_e, KIf_ok, KIf_er, sIf_e, KG_ok, KG_er, sAsg_e, nxt_so, gNm_e, KR_ok, KR_er, sRet_e, KD_ok, KD_er, sDrop_e, KP_ok, sPar_e, KF_ok, KF_er, sFor_e, KOw_ok, KOw_er, sOwn_e, KnL_ok, KnL_er, nLst_e, lsO_so, lstAt_e, KoIo_so, KoI_ok, oIx_e, KoL_so, oLen_e, KoAo_so, KoA_ok, KoA_er, oApp_e, KoEo_so, KoE_ok, oExt_e, KsIo2_so, KsIo_so, KsI2_ok, KsI_ok, KsI_er, sSetI_e, KC2_ok, KC2_er, KC_ok, KC_er, fCall_e, KI2_ok, KIo_so, KI_ok, fCallIo_e, KnC2_ok, KnC_ok, KnC_er, nCall_e, KsQ_t, KsQ_l, KsQ_f, iSeq_e, KsE_t, KsE_l, iEn_e, KR1_ok, iRn1_e, KL_ok, KL_er, lstE_e, Kc1_ok, Kc1_er, compN_e, Kc2_ok, Kc2_er, compN2_e, fitL_so, KoP_ok, oPt_e, oNo_e, Ksl3_ok, Ksl3_er, Ksl2_ok, Ksl2_er, Ksl1_ok, Ksl1_er, fSl_e, KTy_ok, KTy_er, sTry_e, KB_rt, KB_nx, KB_er, runB_e, outs_nil, outs_0, gsNil_e, gsCons_e, gTp_t, S3, e1, z, List.getElem?_cons_succ, List.getElem?_cons_zero, List.set_cons_succ, List.set_cons_zero, Bool.false_eq_true, if_false]
    rw [e7, sSeq_e, s, KS_nx]
    exact doubles hc1 w (by omega) (by omega)
/-- THE LAW -/
theorem law_ok (ns : List Int) (h : ns.length ≤ 63) : F_law [.fl (ns.map D.int)] = .ok (.bl true, []) := by
  obtain ⟨a, b, e1, hc⟩ := cup_ok ns h
  obtain ⟨q, c1, e2, m, hc1⟩ := some_ok (xs := [.int 1, .int 2, .int 3, .int 4, .int 5]) hc (by simp) (by simp)
  obtain ⟨k, rfl, k1⟩ : ∃ k : Nat, q = .int k ∧ k ≤ 5 := by
    simp only [List.mem_cons, List.not_mem_nil, or_false] at m
    rcases m with rfl | rfl | rfl | rfl | rfl
    · exact ⟨1, rfl, by omega⟩
    · exact ⟨2, rfl, by omega⟩
    · exact ⟨3, rfl, by omega⟩
    · exact ⟨4, rfl, by omega⟩
    · exact ⟨5, rfl, by omega⟩
  obtain ⟨t, c2, e3, wt, hc2⟩ := drawn_ok k 100 c1 hc1 (by omega)
  have g2 := gl2 (.str "log") (.str "exp")
  have ga := gl5 (.int 1) (.int 2) (.int 3) (.int 4) (.int 5)
  have gb := gl5 (.int 0) (.int 1) (.int 2) (.int 3) (.int 12)
  generalize D.fl (ns.map D.int) = L at *
  have e5 : F_law [L] = KB [] (T1s [some L, none, none, none]) := by
    unfold F_law
    rw [runB_e, law_tails] <;> rfl
  have e6 : T1s = sSeq S1 (sSeq S2 T3s) := rfl
  have s1 : S1 [some L, none, none, none] = .ok (.nx, [some L, some (Cup a b), none, none]) := by
    simp only [f0_e, put_so, K1_ok, K1_er, f1_e, K2b_ok, K2b_er, K2_ok, K2_er, f2_e, KN_ok, KN_er, fN_e, aNil_e, KAb_ok, KAb_er, KA_ok, KA_er, aCons_e, fvO_so, fv_e, KT_ok, KT_er, tV_e, KNt_ok, KNt_er, tNt_e, KAn_ok, KAn_er, tAn_e, KOr_ok, KOr_er, tOr'_e, KIe_ok, KIe_er, fIf_e, tYs_e, KEa_ok, eAn_e, KEo_ok, eOr_e, KCh3_ok, KCh3_er, KCh2_ok, KChO_so, KCh1_ok, KCh1_er, fCh_e, sNx_e, sBk_e, sCt_e, sRetN_e, sRaise_e, KS_nx, KS_rt, KS_bk, KS_ct, KS_er, sSeq_e, KIf_ok, KIf_er, sIf_e, KG_ok, KG_er, sAsg_e, nxt_so, gNm_e, KR_ok, KR_er, sRet_e, KD_ok, KD_er, sDrop_e, KP_ok, sPar_e, KF_ok, KF_er, sFor_e, KOw_ok, KOw_er, sOwn_e, KnL_ok, KnL_er, nLst_e, lsO_so, lstAt_e, KoIo_so, KoI_ok, oIx_e, KoL_so, oLen_e, KoAo_so, KoA_ok, KoA_er, oApp_e, KoEo_so, KoE_ok, oExt_e, KsIo2_so, KsIo_so, KsI2_ok, KsI_ok, KsI_er, sSetI_e, KC2_ok, KC2_er, KC_ok, KC_er, fCall_e, KI2_ok, KIo_so, KI_ok, fCallIo_e, KnC2_ok, KnC_ok, KnC_er, nCall_e, KsQ_t, KsQ_l, KsQ_f, iSeq_e, KsE_t, KsE_l, iEn_e, KR1_ok, iRn1_e, KL_ok, KL_er, lstE_e, Kc1_ok, Kc1_er, compN_e, Kc2_ok, Kc2_er, compN2_e, fitL_so, KoP_ok, oPt_e, oNo_e, Ksl3_ok, Ksl3_er, Ksl2_ok, Ksl2_er, Ksl1_ok, Ksl1_er, fSl_e, KTy_ok, KTy_er, sTry_e, KB_rt, KB_nx, KB_er, runB_e, outs_nil, outs_0, gsNil_e, gsCons_e, gTp_t, S1, e1, List.getElem?_cons_succ, List.getElem?_cons_zero, List.set_cons_succ, List.set_cons_zero, if_true, Bool.false_eq_true, if_false, List.length_cons, List.length_nil, Nat.reduceAdd, Nat.reduceLT]
  have s2 : S2 [some L, some (Cup a b), none, none] = .ok (.nx, [some L, some c2, some t, none]) := by
    simp only [f0_e, put_so, K1_ok, K1_er, f1_e, K2b_ok, K2b_er, K2_ok, K2_er, f2_e, KN_ok, KN_er, fN_e, aNil_e, KAb_ok, KAb_er, KA_ok, KA_er, aCons_e, fvO_so, fv_e, KT_ok, KT_er, tV_e, KNt_ok, KNt_er, tNt_e, KAn_ok, KAn_er, tAn_e, KOr_ok, KOr_er, tOr'_e, KIe_ok, KIe_er, fIf_e, tYs_e, KEa_ok, eAn_e, KEo_ok, eOr_e, KCh3_ok, KCh3_er, KCh2_ok, KChO_so, KCh1_ok, KCh1_er, fCh_e, sNx_e, sBk_e, sCt_e, sRetN_e, sRaise_e, KS_nx, KS_rt, KS_bk, KS_ct, KS_er, sSeq_e, KIf_ok, KIf_er, sIf_e, KG_ok, KG_er, sAsg_e, nxt_so, gNm_e, KR_ok, KR_er, sRet_e, KD_ok, KD_er, sDrop_e, KP_ok, sPar_e, KF_ok, KF_er, sFor_e, KOw_ok, KOw_er, sOwn_e, KnL_ok, KnL_er, nLst_e, lsO_so, lstAt_e, KoIo_so, KoI_ok, oIx_e, KoL_so, oLen_e, KoAo_so, KoA_ok, KoA_er, oApp_e, KoEo_so, KoE_ok, oExt_e, KsIo2_so, KsIo_so, KsI2_ok, KsI_ok, KsI_er, sSetI_e, KC2_ok, KC2_er, KC_ok, KC_er, fCall_e, KI2_ok, KIo_so, KI_ok, fCallIo_e, KnC2_ok, KnC_ok, KnC_er, nCall_e, KsQ_t, KsQ_l, KsQ_f, iSeq_e, KsE_t, KsE_l, iEn_e, KR1_ok, iRn1_e, KL_ok, KL_er, lstE_e, Kc1_ok, Kc1_er, compN_e, Kc2_ok, Kc2_er, compN2_e, fitL_so, KoP_ok, oPt_e, oNo_e, Ksl3_ok, Ksl3_er, Ksl2_ok, Ksl2_er, Ksl1_ok, Ksl1_er, fSl_e, KTy_ok, KTy_er, sTry_e, KB_rt, KB_nx, KB_er, runB_e, outs_nil, outs_0, gsNil_e, gsCons_e, gTp_t, S2, ga, gb, g2, e2, e3, List.getElem?_cons_succ, List.getElem?_cons_zero, List.set_cons_succ, List.set_cons_zero, if_true, Bool.false_eq_true, if_false]
  rw [e5, e6, sSeq_e, s1, KS_nx, sSeq_e, s2, KS_nx]
  exact wraps hc2 wt (by omega)
end Q68
set_option maxHeartbeats 0
namespace Q68
open PySem PySem.Spec L2 Pl PyProof.Rows
/-! ### the top's run -/
abbrev RR : PySem.W.OpenRow := PySem.W.OpenLaw.row PySem.Challenge.rw_towerback_k68_terms_derived_by_rules
abbrev hkL : PySem.W.Hook := SupV.hookI PP.main.file 4 faL fnL isL exL
def obL (s : PySem.W.SharedT) : SupV.AlI := SupV.obsI PP.main.file 4 faL fnL isL exL (HandSHeadRun.getT s)
theorem obL_eq (s : PySem.W.SharedT) : obL s = hkL.obs s.abs := SupV.obsI_eq (HandSHeadRun.getT_eq s)
def nm0 : List Str := ["__name__", "PaperError", "TooMany", "InvalidTerm", "is_integer", "is_whole", "is_tuple_of", "WHOLES", "POWERS", "HEIGHT", "PARTS", "ALONE", "PAIRS", "has_shape", "own_parts", "level_below", "fits_term", "need_term", "HIGHEST", "LARGEST", "ZERO", "ONE", "slope_term", "slope_of_power", "slope_of_two", "derived_term", "_law_cup", "_law_roll", "_law_some", "_law_parts"]
def nm1 : List Str := ["_law_height", "_law_count", "_law_drawn", "_law_odd", "_law_path", "_law_put", "_law_term_slope", "_law_same", "_law_derive"]
def nmL : List Str := nm0 ++ nm1
theorem runL (w : World) : HandSHeadRun.RunEq RR (PySem.W.view RR.prog [44]) hkL obL 3000 nmL w := by
  intro os
  kernel_rfl
end Q68
set_option maxHeartbeats 0
namespace Pl
open PySem PySem.Spec L2
theorem walkC {l : PySem.W.OpenLaw} {n k : Nat} {q : Program} {loose : List Str} {XP : (Str → Option Value) → Heap → Prop} {YP : World → Heap → Prop} {d : DefRec} {C : World → CXT} {x : Str} (hn : l.most = some n) (hn2 : n ≤ sizeLine) (hdf : d.params.defaults = []) (hr : Room k callerA)
    (F : ∀ (w : World) (mg : Str → Option Value) (fa : Addr) (h : Heap), YP w h → h.Ns mainGlobals mg → mg d.name = some (.ref fa) → ∃ (K : PySem.W.Frag) (fd : FuncData) (sp : Sp), K.In h ∧ (∀ (s : Shared) (u : Value), BindsTo s fd ⟨[u], []⟩ [(x, u)]) ∧
      (∀ (H : Hp) (a : Addr) (ns : List Int), ns.length ≤ n → Only H → SqL K H a (ns.map V.int) → sp [.ref a] H (fun v _ => v = .bl true) fun _ _ _ => False) ∧ ∀ base : Heap, K.In base → base.Ns mainGlobals mg → FnG l.prog w K mg base (C w) k fa fd [x] sp)
    (hC : ∀ (w : World) (H : Hp) (s : Shared) (e : Value) (s' : Shared), C w [] H s (fun _ _ _ => False) e s' → False) : PySem.W.WalkO q loose XP YP l.row.toRowW d [] (fun f vs => PySem.call f vs) := by
  refine Att.attach_call hn hdf fun w s0 s1 mg mb fa o pm cd doc a vs ns G Y ho hd hcd hmg hobj hints hlen hg => ?_
  obtain ⟨K, fd, sp, KX, bb, hsp, FF⟩ := F w mg fa _ Y G.T.g hmg
  exact law_callG KX G.T.g G.T.b G.T.builtins G.T.nolimit hg hobj hints (Nat.le_trans hlen hn2) hr FF bb (fun H o S => hsp H a ns hlen o S) fun H e s' => hC w H s1 e s'
theorem script_rep {K : PySem.W.Frag} {H : Hp} {a : Addr} {ns : List Int} (o : Only H) (h : SqL K H a (ns.map V.int)) (Av : Addr → Prop) : Rep K Av H (.ref a) (.fl (ns.map D.int)) := by
  have all : ∀ ns : List Int, RepAll K Av H (ns.map V.int) (ns.map D.int) := fun ns => by
    induction ns with
    | nil => exact .nil
    | cons n r ih => exact .cons (.int n) ih
  refine .fl ?_ (all ns)
  rcases h with (h | ⟨ob, h⟩) | h
  · rcases o a with z | ⟨ob, xs, z⟩
    · rw [h] at z; cases z
    · rw [h] at z; cases z
  · exact .inl ⟨ob, h⟩
  · exact .inr h
theorem script_sp {K : PySem.W.Frag} {mg : Str → Option Value} {F : FD} {n : Nat} (hF : ∀ ns : List Int, ns.length ≤ n → F [.fl (ns.map D.int)] = .ok (.bl true, [])) {H : Hp} {a : Addr} {ns : List Int} (hl : ns.length ≤ n) (o : Only H) (h : SqL K H a (ns.map V.int)) :
    spP K mg [] 1 F [.ref a] H (fun v _ => v = .bl true) fun _ _ _ => False := by
  refine ⟨rfl, fun _ => False, [.fl (ns.map D.int)], RepAll.slots (Av := fun _ => False) (.cons (script_rep o h _) .nil) (fun _ z => z.elim), ?_⟩
  rw [hF ns hl]
  exact fun v H' ρ _ _ _ r => r.bl_inv
theorem cx_no {P : Program} {w : World} {H : Hp} {s : Shared} {e : Value} {s' : Shared} : L2.CX P w [] H s (fun _ _ _ => False) e s' → False := fun ⟨_, _, _, _, _, _, _, _, _, _, _, _, z⟩ => z
end Pl
namespace Q68
open PySem PySem.Spec L2 Pl
theorem facts {w : World} {K : PySem.W.Frag} {h : Heap} {mg : Str → Option Value} {f : Addr} (X : K.In h) (G : h.Ns PySem.mainGlobals mg) (hfa : mg ("law" : Str) = some (.ref f)) (c : He.SaysD faL fnL K) (i1 : isL.map (fun d => SupV.fnI K d.cn) = isL.map SupV.InD.val) (i2 : isL.all (fun d => d.ok PP.main.file K) = true) (e : exL K = true) :
    ∃ fd : FuncData, (∀ (s : Shared) (v : Value), BindsTo s fd ⟨[v], []⟩ [("_law_script", v)]) ∧ ∀ base : Heap, K.In base → base.Ns PySem.mainGlobals mg → FnG PP w K mg base (L2.CX PP w) 104 f fd ["_law_script"] (spP K mg [] 1 F_law) := by
  obtain ⟨S⟩ := fs_of X G c i1 i2 e
  have g := hfa.symm.trans S.g_law
  cases g
  have b := S.b_law
  exact ⟨S.d_law, fun s v => FunD.bindsA (ps := ["_law_script"]) S.D_law (fun _ _ _ _ _ _ us hl => match us, hl with | [_], _ => rfl) s [v] rfl, fun base _ _ => ok_law S⟩
end Q68
open PySem PySem.W PySem.Calls PyProof.Rows
theorem PySem.Challenge.cw_towerback_k68_terms_derived_by_rules_holds : PySem.Challenge.rw_towerback_k68_terms_derived_by_rules.Holds := by
  w_on; o_law
  refine HandSHeadRun.head_any (r := OpenLaw.row PySem.Challenge.rw_towerback_k68_terms_derived_by_rules) (q := view (OpenLaw.row PySem.Challenge.rw_towerback_k68_terms_derived_by_rules).prog [44]) (H := Q68.hkL) (ob := Q68.obL) (M := 3000) (loose := Q68.nmL)
    (d := HandSHeadRun.topDef (OpenLaw.row PySem.Challenge.rw_towerback_k68_terms_derived_by_rules).prog 44) (kwd := []) Q68.obL_eq (by kernel_rfl) (fun s => by kernel_rfl) Q68.runL (by kernel_rfl) (by kernel_rfl) (by kernel_rfl) (by rfl) (by first | assumption | decide +kernel) (by decide +kernel) ⟨rfl, rfl, rfl, rfl, rfl, by decide +kernel⟩ ?hw ?hc
  case hw => w_witness2
  case hc =>
    refine Pl.walkC (l := PySem.Challenge.rw_towerback_k68_terms_derived_by_rules) (n := 63) (k := 104) (x := "_law_script") (C := fun w => L2.CX PySem.Challenge.rw_towerback_k68_terms_derived_by_rules.prog w) rfl (by decide) (by kernel_rfl) ⟨rfl, by decide, by decide⟩ ?F fun _ _ _ _ _ z => Pl.cx_no z
    intro w mg fa h Y G hmg0
    obtain ⟨K, KX, c, i1, i2, e⟩ := Y
    have hmg : mg ("law" : PySem.Str) = some (.ref fa) := by
      have e : (HandSHeadRun.topDef (OpenLaw.row PySem.Challenge.rw_towerback_k68_terms_derived_by_rules).prog 44).name = ("law" : PySem.Str) := by kernel_rfl
      rw [← e]
      exact hmg0
    obtain ⟨fd, hb, hF⟩ := Q68.facts (w := w) KX G hmg c i1 i2 e
    exact ⟨K, fd, Pl.spP K mg [] 1 Q68.F_law, KX, hb, fun H a ns hl o hS => Pl.script_sp Q68.law_ok hl o hS, hF⟩
