import PyProof.Rows.All
import Wide.All
import OpenK.AllK
import Wide.FinOn
import HandS.ForMost
import HandS.ForExc
import HandS.CallSlots
import HandS.Deep
import HandS.TupAny
import HandS.Wide
import HandS.TupMul
import HandS.Text
import KE.SortData
import HandS.Style
import KE.GoesNew
import HandS.Zip
import HandS.Iter
import HandS.Comp
import HandS.Small
import HandS.TupLen
import HandS.WordsDict
import HandS.RaiseMore
import KE.SortUse
import HandS.IsInst
import HandS.More
import HandS.Words
import HandS.DictComp
import HandS.Conv
import HandS.SetFor
import HandS.Strs
import HandS.Codes
import HandS.Steps
import HandS.HeadEnd
import HandS.EndBits
import HandS.Defaults
import HandS.Head0
import HandS.Head1
import HandS.Head2
import HandS.HeadHook1
import HandS.HeadHook2
import PySem.Challenge.RW_meetwatch_k39_news_tables_met
section
set_option Elab.async false
set_option linter.all false
set_option maxRecDepth 100000
set_option maxHeartbeats 4000000
set_option autoImplicit false
/-! Part a: data, the store, how they lie in the hand layer's heap. -/
namespace PL
open PySem L2

/-- data: what an expression is worth, objects that nobody changes written out -/
inductive D where
  | non | bl (b : Bool) | int (i : Int) | str (s : Str)
  | tup (xs : List D) | lst (xs : List D) | scr (xs : List D) | dct (t : Bool) (kvs : List (D × D))
  | ins (c : Str) (fs : List (Str × D))
  | ref (l : Nat) | glo (x : Str) | ty (n : String)
  deriving Inhabited

/-- what stands in the store -/
inductive Ob where
  | lst (xs : List D) | dct (t : Bool) (kvs : List (D × D)) | ins (c : Str) (fs : List (Str × D))
  deriving Inhabited
abbrev Sto := List Ob
abbrev Fr := List (Option D)
/-- an exception: its class, its own fields -/
structure Exc where
  c : Str
  fs : List (Str × D)

inductive Res (α : Type) where
  | ok (a : α) (S : Sto) | ex (x : Exc) (S : Sto) | bad
/-- a statement's end -/
inductive Fl where
  | nx (r : Fr) (S : Sto) | rt (d : D) (S : Sto) | bk (r : Fr) (S : Sto) | ct (r : Fr) (S : Sto) | ex (x : Exc) (r : Fr) (S : Sto) | bad
def Res.bind {α β : Type} (r : Res α) (k : α → Sto → Res β) : Res β :=
  match r with
  | .ok a S => k a S
  | .ex x S => .ex x S
  | .bad => .bad
def Res.thenS {α : Type} (r : Res α) (ρ : Fr) (k : α → Sto → Fl) : Fl :=
  match r with
  | .ok a S => k a S
  | .ex x S => .ex x ρ S
  | .bad => .bad
abbrev Ev := Fr → Sto → Res D
abbrev EvB := Fr → Sto → Res Bool
abbrev EvL := Fr → Sto → Res (List D)
abbrev St' := Fr → Sto → Fl
abbrev Fn := List D → Sto → Res D

def keyOf : D → Option Key
  | .int i => some (.inl i)
  | .str s => some (.inr s)
  | _ => none
def keysOf : List D → Option (List Key)
  | [] => some []
  | d :: r => match keyOf d, keysOf r with
    | some k, some ks => some (k :: ks)
    | _, _ => none
def tkeyOf : D → Option (List Key)
  | .tup xs => keysOf xs
  | _ => none

/-- what is where: the addresses that nobody changes any more; the store's -/
structure Om where
  M : Addr → Prop
  at_ : List Addr

section
variable (K : PySem.W.Frag) (mg : Str → Option Value)
def isDk : HO → Bool
  | .dK _ => true
  | _ => false
/-- laid for good: a dict may be locked while it is walked -/
def Fzn (ω : Om) (H : Hp) (a : Addr) (o : HO) : Prop := ω.M a ∧ (H a = some o ∨ (isDk o = true ∧ ∃ ob, H a = some (.frz ob o)))
/-- a list that is locked: the script, a list of the text's own top -/
def Scr (H : Hp) (a : Addr) (vs : List V) : Prop := (∃ ob, H a = some (.frz ob (.lst vs))) ∨
  ∃ (o : Obj) (its : Array Value) (n : Nat), K.lookup a = some o ∧ o.cls = .type "list" ∧ o.dict = none ∧ o.data = .seq its n ∧ its.size ≤ sizeLine ∧ Vals vs its.toList
mutual
inductive Rep (ω : Om) (H : Hp) : D → V → Prop
  | non : Rep ω H .non .non
  | bl (b : Bool) : Rep ω H (.bl b) (.bl b)
  | int (i : Int) : Rep ω H (.int i) (.int i)
  | str (x : Str) : Rep ω H (.str x) (.str x)
  | ty (n : String) : Rep ω H (.ty n) (.ty n)
  | glo {x : Str} {a : Addr} : mg x = some (.ref a) → Rep ω H (.glo x) (.ref a)
  | ref {l : Nat} {a : Addr} : ω.at_[l]? = some a → Rep ω H (.ref l) (.ref a)
  | tup {a : Addr} {xs : List D} {vs : List V} : H a = some (.tup vs) → Reps ω H xs vs → Rep ω H (.tup xs) (.ref a)
  | lst {a : Addr} {xs : List D} {vs : List V} : Fzn ω H a (.lst vs) → Reps ω H xs vs → Rep ω H (.lst xs) (.ref a)
  | scr {a : Addr} {xs : List D} {vs : List V} : Scr K H a vs → Reps ω H xs vs → Rep ω H (.scr xs) (.ref a)
  | dct {a : Addr} {xs : List (D × D)} {vs : List (Key × V)} : Fzn ω H a (.dK vs) → RepK ω H xs vs → Rep ω H (.dct false xs) (.ref a)
  | dctT {a : Addr} {xs : List (D × D)} {vs : List (List Key × V)} : Fzn ω H a (.dT vs) → RepT ω H xs vs → Rep ω H (.dct true xs) (.ref a)
  | ins {a C dx : Addr} {c : Str} {fs : List (Str × D)} {gs : List (Str × V)} : mg c = some (.ref C) → Fzn ω H a (.ins C dx gs) → RepF ω H fs gs → Rep ω H (.ins c fs) (.ref a)
inductive Reps (ω : Om) (H : Hp) : List D → List V → Prop
  | nil : Reps ω H [] []
  | cons {d : D} {v : V} {ds : List D} {vs : List V} : Rep ω H d v → Reps ω H ds vs → Reps ω H (d :: ds) (v :: vs)
inductive RepK (ω : Om) (H : Hp) : List (D × D) → List (Key × V) → Prop
  | nil : RepK ω H [] []
  | cons {k d : D} {κ : Key} {v : V} {ds : List (D × D)} {vs : List (Key × V)} : keyOf k = some κ → Rep ω H d v → RepK ω H ds vs → RepK ω H ((k, d) :: ds) ((κ, v) :: vs)
inductive RepT (ω : Om) (H : Hp) : List (D × D) → List (List Key × V) → Prop
  | nil : RepT ω H [] []
  | cons {k d : D} {κ : List Key} {v : V} {ds : List (D × D)} {vs : List (List Key × V)} : tkeyOf k = some κ → Rep ω H d v → RepT ω H ds vs → RepT ω H ((k, d) :: ds) ((κ, v) :: vs)
inductive RepF (ω : Om) (H : Hp) : List (Str × D) → List (Str × V) → Prop
  | nil : RepF ω H [] []
  | cons {x : Str} {d : D} {v : V} {ds : List (Str × D)} {vs : List (Str × V)} : Rep ω H d v → RepF ω H ds vs → RepF ω H ((x, d) :: ds) ((x, v) :: vs)
end

/-- the objects that the store may hold -/
def isMut : HO → Bool
  | .lst _ | .dK _ | .dT _ | .ins _ _ _ => true
  | _ => false
structure Ok (ω : Om) (H : Hp) : Prop where
  nd : ω.at_.Nodup
  dis : ∀ a ∈ ω.at_, ¬ ω.M a
  kind : ∀ a ∈ ω.at_, ∃ o, H a = some o ∧ isMut o = true
  imm : ∀ a, ω.M a → ∃ o, H a = some o
structure Ext (ω : Om) (H : Hp) (ω' : Om) (H' : Hp) : Prop where
  more : ∃ m, ω'.at_ = ω.at_ ++ m ∧ ∀ a ∈ m, H a = none
  mono : ∀ a, ω.M a → ω'.M a
  new : ∀ a, ω'.M a → ω.M a ∨ H a = none
  keep : ∀ a o, H a = some o → a ∉ ω.at_ → H' a = some o
  there : ∀ a o, H a = some o → ∃ o', H' a = some o'
inductive ObR (ω : Om) (H : Hp) : Ob → HO → Prop
  | lst {xs : List D} {vs : List V} : Reps K mg ω H xs vs → ObR ω H (.lst xs) (.lst vs)
  | dct {xs : List (D × D)} {vs : List (Key × V)} : RepK K mg ω H xs vs → ObR ω H (.dct false xs) (.dK vs)
  | dctT {xs : List (D × D)} {vs : List (List Key × V)} : RepT K mg ω H xs vs → ObR ω H (.dct true xs) (.dT vs)
  | ins {c : Str} {C dx : Addr} {fs : List (Str × D)} {gs : List (Str × V)} : mg c = some (.ref C) → RepF K mg ω H fs gs → ObR ω H (.ins c fs) (.ins C dx gs)
structure St0 (ω : Om) (H : Hp) (S : Sto) : Prop where
  ok : Ok ω H
  len : S.length = ω.at_.length
  obs : ∀ (l : Nat) (ob : Ob) (a : Addr), S[l]? = some ob → ω.at_[l]? = some a → ∃ o, H a = some o ∧ ObR K mg ω H ob o
/-- the frame -/
structure FrR (ω : Om) (H : Hp) (ρ : Fr) (σ : St) : Prop where
  len : ρ.length = σ.length
  val : ∀ (i : Nat) (d : D), ρ[i]? = some (some d) → ∃ v, σ[i]? = some (some v) ∧ Rep K mg ω H d v
def XRep (ω : Om) (H : Hp) (x : Exc) (c : Value) (dx : Option Addr) : Prop :=
  (∃ C, mg x.c = some (.ref C) ∧ c = .ref C) ∧ (x.fs = [] ∨ ∃ d gs, dx = some d ∧ H d = some (.xd gs) ∧ RepF K mg ω H x.fs gs)
end

section
variable {K : PySem.W.Frag} {mg : Str → Option Value} {ω ω' ω1 ω2 : Om} {H H' H1 H2 : Hp}

theorem Ext.refl : Ext ω H ω H := ⟨⟨[], by simp, by simp⟩, fun _ h => h, fun _ h => .inl h, fun _ _ h _ => h, fun _ o h => ⟨o, h⟩⟩
theorem Ext.mem (e : Ext ω H ω' H') {a : Addr} (h : a ∈ ω'.at_) : a ∈ ω.at_ ∨ H a = none := by
  obtain ⟨m, em, hm⟩ := e.more
  rw [em] at h
  rcases List.mem_append.mp h with h | h
  · exact .inl h
  · exact .inr (hm a h)
theorem Ext.sub (e : Ext ω H ω' H') {a : Addr} (h : a ∈ ω.at_) : a ∈ ω'.at_ := by
  obtain ⟨m, em, hm⟩ := e.more
  rw [em]; exact List.mem_append_left _ h
theorem Ext.get (e : Ext ω H ω' H') {l : Nat} {a : Addr} (h : ω.at_[l]? = some a) : ω'.at_[l]? = some a := by
  obtain ⟨m, em, hm⟩ := e.more
  rw [em]
  have hl : l < ω.at_.length := (List.getElem?_eq_some_iff.mp h).1
  rw [List.getElem?_append_left hl]; exact h
theorem Ext.free (e : Ext ω H ω' H') {a : Addr} (h : H' a = none) : H a = none := by
  cases q : H a with
  | none => rfl
  | some o => obtain ⟨o', h'⟩ := e.there a o q; rw [h] at h'; cases h'
theorem Ext.trans (a : Ext ω H ω1 H1) (b : Ext ω1 H1 ω2 H2) : Ext ω H ω2 H2 where
  more := by
    obtain ⟨m, e1, h1⟩ := a.more
    obtain ⟨n, e2, h2⟩ := b.more
    refine ⟨m ++ n, by rw [e2, e1, List.append_assoc], fun x hx => ?_⟩
    rcases List.mem_append.mp hx with hx | hx
    · exact h1 x hx
    · exact a.free (h2 x hx)
  mono := fun x h => b.mono x (a.mono x h)
  new := fun x h => by
    rcases b.new x h with h | h
    · exact a.new x h
    · exact .inr (a.free h)
  keep := fun x o h n => by
    refine b.keep x o (a.keep x o h n) fun hm => ?_
    rcases a.mem hm with q | q
    · exact n q
    · rw [h] at q; cases q
  there := fun x o h => by
    obtain ⟨o1, h1⟩ := a.there x o h
    exact b.there x o1 h1

theorem Ok.notMem (k : Ok ω H) {a : Addr} {o : HO} (h : H a = some o) (n : isMut o = false) : a ∉ ω.at_ := fun hm => by
  obtain ⟨o', h', m⟩ := k.kind a hm
  rw [h] at h'; cases h'; rw [n] at m; cases m
theorem tup_keep {a : Addr} {vs : List V} (k : Ok ω H) (e : Ext ω H ω' H') (h : H a = some (.tup vs)) : H' a = some (.tup vs) := e.keep a _ h (k.notMem h rfl)
theorem Fzn.keep {a : Addr} {o : HO} (k : Ok ω H) (e : Ext ω H ω' H') (h : Fzn ω H a o) : Fzn ω' H' a o := ⟨e.mono a h.1, h.2.elim (fun q => .inl (e.keep a o q fun z => k.dis a z h.1)) fun ⟨kd, ob, q⟩ => .inr ⟨kd, ob, e.keep a _ q fun z => k.dis a z h.1⟩⟩
theorem Fzn.lst {ω : Om} {H : Hp} {a : Addr} {vs : List V} (h : Fzn ω H a (.lst vs)) : H a = some (.lst vs) := h.2.elim id fun z => absurd z.1 (by simp [isDk])
theorem Fzn.dT {ω : Om} {H : Hp} {a : Addr} {vs : List (List Key × V)} (h : Fzn ω H a (.dT vs)) : H a = some (.dT vs) := h.2.elim id fun z => absurd z.1 (by simp [isDk])
theorem Fzn.rd {ω : Om} {H : Hp} {a : Addr} {o : HO} (h : Fzn ω H a o) : Rd H a o := h.2.elim .inl fun z => .inr z.2
theorem Fzn.over {ω : Om} {H : Hp} {a b : Addr} {o o' : HO} (h : Fzn ω H a o) (n : a ≠ b) : Fzn ω (upd H b o') a o := ⟨h.1, h.2.elim (fun q => .inl (by rw [upd_ne n]; exact q)) fun ⟨k, ob, q⟩ => .inr ⟨k, ob, by rw [upd_ne n]; exact q⟩⟩
theorem scr_keep {a : Addr} {vs : List V} (k : Ok ω H) (e : Ext ω H ω' H') (h : Scr K H a vs) : Scr K H' a vs := by
  rcases h with ⟨ob, h⟩ | h
  · exact .inl ⟨ob, e.keep a _ h (k.notMem h rfl)⟩
  · exact .inr h

mutual
theorem Rep.mapR (hT : ∀ a vs, H a = some (.tup vs) → H' a = some (.tup vs)) (hS : ∀ a vs, Scr K H a vs → Scr K H' a vs) (hZ : ∀ a o, isMut o = true → Fzn ω H a o → Fzn ω' H' a o) (hR : ∀ (l : Nat) (a : Addr), ω.at_[l]? = some a → ω'.at_[l]? = some a) : ∀ {d : D} {v : V}, Rep K mg ω H d v → Rep K mg ω' H' d v
  | _, _, .non => .non
  | _, _, .bl b => .bl b
  | _, _, .int i => .int i
  | _, _, .str x => .str x
  | _, _, .ty n => .ty n
  | _, _, .glo h => .glo h
  | _, _, .ref h => .ref (hR _ _ h)
  | _, _, .tup h r => .tup (hT _ _ h) (Reps.mapR hT hS hZ hR r)
  | _, _, .lst h r => .lst (hZ _ _ rfl h) (Reps.mapR hT hS hZ hR r)
  | _, _, .scr h r => .scr (hS _ _ h) (Reps.mapR hT hS hZ hR r)
  | _, _, .dct h r => .dct (hZ _ _ rfl h) (RepK.mapR hT hS hZ hR r)
  | _, _, .dctT h r => .dctT (hZ _ _ rfl h) (RepT.mapR hT hS hZ hR r)
  | _, _, .ins hc h r => .ins hc (hZ _ _ rfl h) (RepF.mapR hT hS hZ hR r)
theorem Reps.mapR (hT : ∀ a vs, H a = some (.tup vs) → H' a = some (.tup vs)) (hS : ∀ a vs, Scr K H a vs → Scr K H' a vs) (hZ : ∀ a o, isMut o = true → Fzn ω H a o → Fzn ω' H' a o) (hR : ∀ (l : Nat) (a : Addr), ω.at_[l]? = some a → ω'.at_[l]? = some a) : ∀ {d : List D} {v : List V}, Reps K mg ω H d v → Reps K mg ω' H' d v
  | _, _, .nil => .nil
  | _, _, .cons h r => .cons (Rep.mapR hT hS hZ hR h) (Reps.mapR hT hS hZ hR r)
theorem RepK.mapR (hT : ∀ a vs, H a = some (.tup vs) → H' a = some (.tup vs)) (hS : ∀ a vs, Scr K H a vs → Scr K H' a vs) (hZ : ∀ a o, isMut o = true → Fzn ω H a o → Fzn ω' H' a o) (hR : ∀ (l : Nat) (a : Addr), ω.at_[l]? = some a → ω'.at_[l]? = some a) : ∀ {d : List (D × D)} {v : List (Key × V)}, RepK K mg ω H d v → RepK K mg ω' H' d v
  | _, _, .nil => .nil
  | _, _, .cons q h r => .cons q (Rep.mapR hT hS hZ hR h) (RepK.mapR hT hS hZ hR r)
theorem RepT.mapR (hT : ∀ a vs, H a = some (.tup vs) → H' a = some (.tup vs)) (hS : ∀ a vs, Scr K H a vs → Scr K H' a vs) (hZ : ∀ a o, isMut o = true → Fzn ω H a o → Fzn ω' H' a o) (hR : ∀ (l : Nat) (a : Addr), ω.at_[l]? = some a → ω'.at_[l]? = some a) : ∀ {d : List (D × D)} {v : List (List Key × V)}, RepT K mg ω H d v → RepT K mg ω' H' d v
  | _, _, .nil => .nil
  | _, _, .cons q h r => .cons q (Rep.mapR hT hS hZ hR h) (RepT.mapR hT hS hZ hR r)
theorem RepF.mapR (hT : ∀ a vs, H a = some (.tup vs) → H' a = some (.tup vs)) (hS : ∀ a vs, Scr K H a vs → Scr K H' a vs) (hZ : ∀ a o, isMut o = true → Fzn ω H a o → Fzn ω' H' a o) (hR : ∀ (l : Nat) (a : Addr), ω.at_[l]? = some a → ω'.at_[l]? = some a) : ∀ {d : List (Str × D)} {v : List (Str × V)}, RepF K mg ω H d v → RepF K mg ω' H' d v
  | _, _, .nil => .nil
  | _, _, .cons h r => .cons (Rep.mapR hT hS hZ hR h) (RepF.mapR hT hS hZ hR r)
end
theorem ObR.mapR (hT : ∀ a vs, H a = some (.tup vs) → H' a = some (.tup vs)) (hS : ∀ a vs, Scr K H a vs → Scr K H' a vs) (hZ : ∀ a o, isMut o = true → Fzn ω H a o → Fzn ω' H' a o) (hR : ∀ (l : Nat) (a : Addr), ω.at_[l]? = some a → ω'.at_[l]? = some a) {ob : Ob} {o : HO} (h : ObR K mg ω H ob o) : ObR K mg ω' H' ob o := by
  cases h with
  | lst r => exact .lst (r.mapR hT hS hZ hR)
  | dct r => exact .dct (r.mapR hT hS hZ hR)
  | dctT r => exact .dctT (r.mapR hT hS hZ hR)
  | ins hc r => exact .ins hc (r.mapR hT hS hZ hR)
theorem Rep.keep {d : D} {v : V} (h : Rep K mg ω H d v) (k : Ok ω H) (e : Ext ω H ω' H') : Rep K mg ω' H' d v := h.mapR (fun _ _ => tup_keep k e) (fun _ _ => scr_keep k e) (fun _ _ _ => Fzn.keep k e) fun _ _ => e.get
theorem Reps.keep {d : List D} {v : List V} (h : Reps K mg ω H d v) (k : Ok ω H) (e : Ext ω H ω' H') : Reps K mg ω' H' d v := h.mapR (fun _ _ => tup_keep k e) (fun _ _ => scr_keep k e) (fun _ _ _ => Fzn.keep k e) fun _ _ => e.get
theorem RepK.keep {d : List (D × D)} {v : List (Key × V)} (h : RepK K mg ω H d v) (k : Ok ω H) (e : Ext ω H ω' H') : RepK K mg ω' H' d v := h.mapR (fun _ _ => tup_keep k e) (fun _ _ => scr_keep k e) (fun _ _ _ => Fzn.keep k e) fun _ _ => e.get
theorem RepT.keep {d : List (D × D)} {v : List (List Key × V)} (h : RepT K mg ω H d v) (k : Ok ω H) (e : Ext ω H ω' H') : RepT K mg ω' H' d v := h.mapR (fun _ _ => tup_keep k e) (fun _ _ => scr_keep k e) (fun _ _ _ => Fzn.keep k e) fun _ _ => e.get
theorem RepF.keep {d : List (Str × D)} {v : List (Str × V)} (h : RepF K mg ω H d v) (k : Ok ω H) (e : Ext ω H ω' H') : RepF K mg ω' H' d v := h.mapR (fun _ _ => tup_keep k e) (fun _ _ => scr_keep k e) (fun _ _ _ => Fzn.keep k e) fun _ _ => e.get
theorem ObR.keep {ob : Ob} {o : HO} (k : Ok ω H) (e : Ext ω H ω' H') (h : ObR K mg ω H ob o) : ObR K mg ω' H' ob o := h.mapR (fun _ _ => tup_keep k e) (fun _ _ => scr_keep k e) (fun _ _ _ => Fzn.keep k e) fun _ _ => e.get
theorem ObR.mut {ob : Ob} {o : HO} (h : ObR K mg ω H ob o) : isMut o = true := by cases h <;> rfl
theorem FrR.keep {ρ : Fr} {σ : St} (k : Ok ω H) (e : Ext ω H ω' H') (h : FrR K mg ω H ρ σ) : FrR K mg ω' H' ρ σ :=
  ⟨h.len, fun i d q => let ⟨v, a, r⟩ := h.val i d q; ⟨v, a, r.keep k e⟩⟩
theorem FrR.set {ρ : Fr} {σ : St} {i : Nat} {d : D} {v : V} (h : FrR K mg ω H ρ σ) (r : Rep K mg ω H d v) : FrR K mg ω H (ρ.set i (some d)) (σ.set i (some v)) := by
  refine ⟨by simp [h.len], fun j e q => ?_⟩
  rw [List.getElem?_set] at q
  by_cases hj : i = j
  · subst hj
    rw [if_pos rfl] at q
    split at q
    · rename_i hl
      cases q
      refine ⟨v, ?_, r⟩
      rw [List.getElem?_set_self (by rw [← h.len]; exact hl)]
    · cases q
  · rw [if_neg hj] at q
    obtain ⟨v', a, r'⟩ := h.val j e q
    exact ⟨v', by rw [List.getElem?_set_ne hj]; exact a, r'⟩
theorem FrR.setNone {ρ : Fr} {σ : St} {i : Nat} (h : FrR K mg ω H ρ σ) : FrR K mg ω H (ρ.set i none) (σ.set i none) := by
  refine ⟨by simp [h.len], fun j e q => ?_⟩
  by_cases hj : i = j
  · subst hj
    rw [List.getElem?_set] at q
    rw [if_pos rfl] at q
    split at q <;> cases q
  · rw [List.getElem?_set_ne hj] at q
    obtain ⟨v', a, r'⟩ := h.val j e q
    exact ⟨v', by rw [List.getElem?_set_ne hj]; exact a, r'⟩

theorem Reps.length : ∀ {d : List D} {v : List V}, Reps K mg ω H d v → d.length = v.length
  | _, _, .nil => rfl
  | _, _, .cons _ r => by simp [Reps.length r]
theorem Reps.get : ∀ {ds : List D} {vs : List V} {i : Nat} {d : D}, Reps K mg ω H ds vs → ds[i]? = some d → ∃ v, vs[i]? = some v ∧ Rep K mg ω H d v
  | _, _, _, _, .nil, h => by simp at h
  | _, _, 0, _, .cons h _, q => by simp at q; subst q; exact ⟨_, rfl, h⟩
  | _, _, i + 1, d, .cons _ r, q => by
    obtain ⟨v, a, b⟩ := Reps.get (i := i) (d := d) r (by simpa using q)
    exact ⟨v, by simpa using a, b⟩
theorem Reps.get' : ∀ {ds : List D} {vs : List V} {i : Nat} {v : V}, Reps K mg ω H ds vs → vs[i]? = some v → ∃ d, ds[i]? = some d ∧ Rep K mg ω H d v
  | _, _, _, _, .nil, h => by simp at h
  | _, _, 0, _, .cons h _, q => by simp at q; subst q; exact ⟨_, rfl, h⟩
  | _, _, i + 1, v, .cons _ r, q => by
    obtain ⟨d, a, b⟩ := Reps.get' (i := i) (v := v) r (by simpa using q)
    exact ⟨d, by simpa using a, b⟩
theorem Reps.append : ∀ {as bs : List D} {us vs : List V}, Reps K mg ω H as us → Reps K mg ω H bs vs → Reps K mg ω H (as ++ bs) (us ++ vs)
  | _, _, _, _, .nil, s => s
  | _, _, _, _, .cons h r, s => .cons h (Reps.append r s)
theorem Reps.take : ∀ {ds : List D} {vs : List V} (n : Nat), Reps K mg ω H ds vs → Reps K mg ω H (ds.take n) (vs.take n)
  | _, _, 0, _ => by simp; exact .nil
  | _, _, n + 1, .nil => .nil
  | _, _, n + 1, .cons h r => .cons h (Reps.take n r)
theorem Reps.drop : ∀ {ds : List D} {vs : List V} (n : Nat), Reps K mg ω H ds vs → Reps K mg ω H (ds.drop n) (vs.drop n)
  | _, _, 0, r => r
  | _, _, n + 1, .nil => .nil
  | _, _, n + 1, .cons h r => Reps.drop n r
theorem Reps.set : ∀ {ds : List D} {vs : List V} {d : D} {v : V} (i : Nat), Reps K mg ω H ds vs → Rep K mg ω H d v → Reps K mg ω H (ds.set i d) (vs.set i v)
  | _, _, _, _, _, .nil, _ => .nil
  | _, _, _, _, 0, .cons _ r, h => .cons h r
  | _, _, _, _, i + 1, .cons h r, q => .cons h (Reps.set i r q)
theorem Reps.reverse : ∀ {ds : List D} {vs : List V}, Reps K mg ω H ds vs → Reps K mg ω H ds.reverse vs.reverse
  | _, _, .nil => .nil
  | _, _, .cons h r => by
    rw [List.reverse_cons, List.reverse_cons]
    exact (Reps.reverse r).append (.cons h .nil)

/-- a new object that nobody changes -/
theorem ext_new {p : Addr} {o : HO} (h : H p = none) : Ext ω H ω (upd H p o) :=
  ⟨⟨[], by simp, by simp⟩, fun _ h => h, fun _ h => .inl h, fun a o' q _ => by rw [upd_ne (ne_of_none q h)]; exact q, fun a o' q => ⟨o', by rw [upd_ne (ne_of_none q h)]; exact q⟩⟩
theorem ok_new {p : Addr} {o : HO} (k : Ok ω H) (h : H p = none) : Ok ω (upd H p o) :=
  ⟨k.nd, k.dis, fun a ha => by
    obtain ⟨o', q, m⟩ := k.kind a ha
    exact ⟨o', by rw [upd_ne (ne_of_none q h)]; exact q, m⟩, fun a ha => by
    obtain ⟨o', q⟩ := k.imm a ha
    exact ⟨o', by rw [upd_ne (ne_of_none q h)]; exact q⟩⟩
/-- the store behind a step that touched none of its objects -/
theorem St0.ext {S : Sto} (s : St0 K mg ω H S) (e : Ext ω H ω' H') (k : Ok ω' H') (hw : ω'.at_ = ω.at_) (ho : ∀ a ∈ ω.at_, H' a = H a) : St0 K mg ω' H' S :=
  ⟨k, by rw [hw]; exact s.len, fun l ob a h1 h2 => by
    rw [hw] at h2
    obtain ⟨o, q, r⟩ := s.obs l ob a h1 h2
    exact ⟨o, by rw [ho a (List.mem_of_getElem? h2)]; exact q, r.keep s.ok e⟩⟩
theorem st_new {p : Addr} {o : HO} {S : Sto} (s : St0 K mg ω H S) (h : H p = none) : St0 K mg ω (upd H p o) S :=
  s.ext (ext_new h) (ok_new s.ok h) rfl fun a ha => by
    obtain ⟨o', q, _⟩ := s.ok.kind a ha
    rw [upd_ne (ne_of_none q h)]
/-- an address laid among those that nobody changes -/
def Om.fix (ω : Om) (p : Addr) : Om := ⟨fun a => ω.M a ∨ a = p, ω.at_⟩
theorem ext_fix {p : Addr} (n : H p = none) (e : Ext ω H ω1 H1) : Ext ω H (ω1.fix p) H1 :=
  ⟨e.more, fun a h => .inl (e.mono a h), fun a h => by
    rcases h with h | h
    · exact e.new a h
    · subst h; exact .inr n, e.keep, e.there⟩
theorem ok_fix {p : Addr} {o : HO} (k : Ok ω H) (h : H p = some o) (n : p ∉ ω.at_) : Ok (ω.fix p) H :=
  ⟨k.nd, fun a ha hm => by
    rcases hm with hm | hm
    · exact k.dis a ha hm
    · subst hm; exact n ha, k.kind, fun a hm => by
    rcases hm with hm | hm
    · exact k.imm a hm
    · subst hm; exact ⟨o, h⟩⟩
theorem Fzn.fix {p a : Addr} {o : HO} (h : Fzn ω H a o) : Fzn (ω.fix p) H a o := ⟨.inl h.1, h.2⟩
theorem St0.fix {S : Sto} {p : Addr} {o : HO} (s : St0 K mg ω H S) (h : H p = some o) (n : p ∉ ω.at_) : St0 K mg (ω.fix p) H S :=
  ⟨ok_fix s.ok h n, s.len, fun l ob a h1 h2 => by
    obtain ⟨o, q, r⟩ := s.obs l ob a h1 h2
    exact ⟨o, q, r.mapR (ω' := ω.fix p) (fun _ _ z => z) (fun _ _ z => z) (fun _ _ _ z => z.fix) fun _ _ z => z⟩⟩
theorem Reps.fix {ds : List D} {vs : List V} {p : Addr} (r : Reps K mg ω H ds vs) : Reps K mg (ω.fix p) H ds vs := r.mapR (ω' := ω.fix p) (fun _ _ z => z) (fun _ _ z => z) (fun _ _ _ z => z.fix) fun _ _ z => z
end
end PL
end
section
set_option Elab.async false
set_option linter.all false
set_option maxRecDepth 100000
set_option maxHeartbeats 4000000
set_option autoImplicit false
/-! Part b: what an expression, a test, an argument list, a statement is worth: the one reading of each. -/
namespace PL
open PySem L2

section
variable (K : PySem.W.Frag) (mg : Str → Option Value)
/-- what must hold behind a result -/
def PostE (W : WX) (ω : Om) (H : Hp) (σ : St) (r : Res D) (Q : VK) : Prop :=
  match r with
  | .ok d S => ∀ v ω' H', Ext ω H ω' H' → St0 K mg ω' H' S → Rep K mg ω' H' d v → Q v H'
  | .ex x S => ∀ c dx ω' H', Ext ω H ω' H' → St0 K mg ω' H' S → XRep K mg ω' H' x c dx → W c dx σ H'
  | .bad => False
def PostT (W : WX) (ω : Om) (H : Hp) (σ : St) (r : Res Bool) (Q : Bool → Hp → Prop) : Prop :=
  match r with
  | .ok b S => ∀ ω' H', Ext ω H ω' H' → St0 K mg ω' H' S → Q b H'
  | .ex x S => ∀ c dx ω' H', Ext ω H ω' H' → St0 K mg ω' H' S → XRep K mg ω' H' x c dx → W c dx σ H'
  | .bad => False
def PostA (W : WX) (ω : Om) (H : Hp) (σ : St) (r : Res (List D)) (Q : List V → Hp → Prop) : Prop :=
  match r with
  | .ok ds S => ∀ vs ω' H', Ext ω H ω' H' → St0 K mg ω' H' S → Reps K mg ω' H' ds vs → Q vs H'
  | .ex x S => ∀ c dx ω' H', Ext ω H ω' H' → St0 K mg ω' H' S → XRep K mg ω' H' x c dx → W c dx σ H'
  | .bad => False
/-- a new list, which nobody else knows -/
def PostL (W : WX) (ω : Om) (H : Hp) (σ : St) (r : Res (List D)) (Q : VK) : Prop :=
  match r with
  | .ok ds S => ∀ a vs ω' H', Ext ω H ω' H' → St0 K mg ω' H' S → H a = none → H' a = some (.lst vs) → a ∉ ω'.at_ → ¬ ω'.M a → Reps K mg ω' H' ds vs → Q (.ref a) H'
  | .ex x S => ∀ c dx ω' H', Ext ω H ω' H' → St0 K mg ω' H' S → XRep K mg ω' H' x c dx → W c dx σ H'
  | .bad => False
def PostS (W : WX) (ω : Om) (H : Hp) (r : Fl) (D : Ends) : Prop :=
  match r with
  | .nx ρ S => ∀ σ' ω' H', Ext ω H ω' H' → St0 K mg ω' H' S → FrR K mg ω' H' ρ σ' → D.nx σ' H'
  | .bk ρ S => ∀ σ' ω' H', Ext ω H ω' H' → St0 K mg ω' H' S → FrR K mg ω' H' ρ σ' → D.bk σ' H'
  | .ct ρ S => ∀ σ' ω' H', Ext ω H ω' H' → St0 K mg ω' H' S → FrR K mg ω' H' ρ σ' → D.ct σ' H'
  | .rt d S => ∀ v ω' H', Ext ω H ω' H' → St0 K mg ω' H' S → Rep K mg ω' H' d v → D.rt v H'
  | .ex x ρ S => ∀ c dx σ' ω' H', Ext ω H ω' H' → St0 K mg ω' H' S → FrR K mg ω' H' ρ σ' → XRep K mg ω' H' x c dx → W c dx σ' H'
  | .bad => False
/-- the state at hand -/
structure At (ω : Om) (H : Hp) (σ : St) (ρ : Fr) (S : Sto) : Prop where
  st : St0 K mg ω H S
  fr : FrR K mg ω H ρ σ
def tD (W : WX) (f : Ev) : TE := fun σ H Q => ∃ ω ρ S, At K mg ω H σ ρ S ∧ PostE K mg W ω H σ (f ρ S) Q
def tDT (W : WX) (f : EvB) : TT := fun σ H Q => ∃ ω ρ S, At K mg ω H σ ρ S ∧ PostT K mg W ω H σ (f ρ S) Q
def tDA (W : WX) (f : EvL) : TA := fun σ H Q => ∃ ω ρ S, At K mg ω H σ ρ S ∧ PostA K mg W ω H σ (f ρ S) Q
def tDL (W : WX) (f : EvL) : TE := fun σ H Q => ∃ ω ρ S, At K mg ω H σ ρ S ∧ PostL K mg W ω H σ (f ρ S) Q
def tDS (W : WX) (f : St') : TS := fun D σ H => ∃ ω ρ S, At K mg ω H σ ρ S ∧ PostS K mg W ω H (f ρ S) D
end
abbrev DE (X : Cx) (W : WX) (e : Expr) (f : Ev) : Prop := PE X e (tD X.K X.mg W f)
abbrev DT (X : Cx) (W : WX) (e : Expr) (f : EvB) : Prop := PT X e (tDT X.K X.mg W f)
abbrev DA (X : Cx) (W : WX) (es : List Expr) (f : EvL) : Prop := PA X es (tDA X.K X.mg W f)
abbrev DL (X : Cx) (W : WX) (e : Expr) (f : EvL) : Prop := PE X e (tDL X.K X.mg W f)
abbrev DS (X : Cx) (W : WX) (st : Stmt) (f : St') : Prop := PS X st (tDS X.K X.mg W f)
abbrev DB (X : Cx) (W : WX) (sts : List Stmt) (f : St') : Prop := PSs X sts (tDS X.K X.mg W f)

section
variable {X : Cx} {e : Expr} {es : List Expr} {st : Stmt} {sts : List Stmt}
theorem PE.imp {t t' : TE} (h : PE X e t) (i : ∀ σ H Q, t' σ H Q → t σ H Q) : PE X e t' := ⟨fun pins s σ H Q I q => h.run pins s σ H Q I (i _ _ _ q)⟩
theorem PT.imp {t t' : TT} (h : PT X e t) (i : ∀ σ H Q, t' σ H Q → t σ H Q) : PT X e t' := ⟨fun pins s σ H Q I q => h.run pins s σ H Q I (i _ _ _ q)⟩
theorem PA.imp {t t' : TA} (h : PA X es t) (i : ∀ σ H Q, t' σ H Q → t σ H Q) : PA X es t' := ⟨fun pos pins s σ H Q I q => h.run pos pins s σ H Q I (i _ _ _ q)⟩
theorem PS.imp {t t' : TS} (h : PS X st t) (i : ∀ D σ H, t' D σ H → t D σ H) : PS X st t' := ⟨fun pins s σ H D I q => h.run pins s σ H D I (i _ _ _ q)⟩
theorem PSs.imp {t t' : TS} (h : PSs X sts t) (i : ∀ D σ H, t' D σ H → t D σ H) : PSs X sts t' := ⟨fun pins s σ H D I q => h.run pins s σ H D I (i _ _ _ q)⟩
end

section
variable {K : PySem.W.Frag} {mg : Str → Option Value} {W : WX} {ω ω1 : Om} {H H1 : Hp} {σ : St} {ρ : Fr} {S S1 : Sto}
theorem At.go (a : At K mg ω H σ ρ S) (e : Ext ω H ω1 H1) (s : St0 K mg ω1 H1 S1) : At K mg ω1 H1 σ ρ S1 := ⟨s, a.fr.keep a.st.ok e⟩
theorem PostE.sh {r : Res D} {Q : VK} (e : Ext ω H ω1 H1) (p : PostE K mg W ω H σ r Q) : PostE K mg W ω1 H1 σ r Q := by
  cases r with
  | ok d S => exact fun v ω' H' e' s r => p v ω' H' (e.trans e') s r
  | ex x S => exact fun c dx ω' H' e' s r => p c dx ω' H' (e.trans e') s r
  | bad => exact p
theorem PostT.sh {r : Res Bool} {Q : Bool → Hp → Prop} (e : Ext ω H ω1 H1) (p : PostT K mg W ω H σ r Q) : PostT K mg W ω1 H1 σ r Q := by
  cases r with
  | ok d S => exact fun ω' H' e' s => p ω' H' (e.trans e') s
  | ex x S => exact fun c dx ω' H' e' s r => p c dx ω' H' (e.trans e') s r
  | bad => exact p
theorem PostA.sh {r : Res (List D)} {Q : List V → Hp → Prop} (e : Ext ω H ω1 H1) (p : PostA K mg W ω H σ r Q) : PostA K mg W ω1 H1 σ r Q := by
  cases r with
  | ok d S => exact fun v ω' H' e' s r => p v ω' H' (e.trans e') s r
  | ex x S => exact fun c dx ω' H' e' s r => p c dx ω' H' (e.trans e') s r
  | bad => exact p
theorem PostL.sh {r : Res (List D)} {Q : VK} (e : Ext ω H ω1 H1) (p : PostL K mg W ω H σ r Q) : PostL K mg W ω1 H1 σ r Q := by
  cases r with
  | ok d S => exact fun a vs ω' H' e' s n q n1 n2 r => p a vs ω' H' (e.trans e') s (e.free n) q n1 n2 r
  | ex x S => exact fun c dx ω' H' e' s r => p c dx ω' H' (e.trans e') s r
  | bad => exact p
theorem PostS.sh {r : Fl} {D : Ends} (e : Ext ω H ω1 H1) (p : PostS K mg W ω H r D) : PostS K mg W ω1 H1 r D := by
  cases r with
  | nx ρ S => exact fun v ω' H' e' s r => p v ω' H' (e.trans e') s r
  | bk ρ S => exact fun v ω' H' e' s r => p v ω' H' (e.trans e') s r
  | ct ρ S => exact fun v ω' H' e' s r => p v ω' H' (e.trans e') s r
  | rt ρ S => exact fun v ω' H' e' s r => p v ω' H' (e.trans e') s r
  | ex x ρ S => exact fun c dx σ' ω' H' e' s f r => p c dx σ' ω' H' (e.trans e') s f r
  | bad => exact p
/-- what an exception asks, in the four kinds of ends -/
def PX (K : PySem.W.Frag) (mg : Str → Option Value) (W : WX) (ω : Om) (H : Hp) (σ : St) (x : Exc) (S : Sto) : Prop :=
  ∀ c dx ω' H', Ext ω H ω' H' → St0 K mg ω' H' S → XRep K mg ω' H' x c dx → W c dx σ H'

/-- an expression, then what follows -/
theorem tD_go {f : Ev} {R : VK} (a : At K mg ω H σ ρ S)
    (hk : ∀ d S1, f ρ S = .ok d S1 → ∀ v ω1 H1, Ext ω H ω1 H1 → At K mg ω1 H1 σ ρ S1 → Rep K mg ω1 H1 d v → R v H1)
    (hx : ∀ x S1, f ρ S = .ex x S1 → PX K mg W ω H σ x S1) (hb : f ρ S ≠ .bad) : tD K mg W f σ H R := by
  refine ⟨ω, ρ, S, a, ?_⟩
  unfold PostE
  split
  · rename_i d S1 q; exact fun v ω' H' e s r => hk d S1 q v ω' H' e (a.go e s) r
  · rename_i x S1 q; exact hx x S1 q
  · rename_i q; exact hb q
theorem tDT_go {f : EvB} {R : Bool → Hp → Prop} (a : At K mg ω H σ ρ S)
    (hk : ∀ b S1, f ρ S = .ok b S1 → ∀ ω1 H1, Ext ω H ω1 H1 → At K mg ω1 H1 σ ρ S1 → R b H1)
    (hx : ∀ x S1, f ρ S = .ex x S1 → PX K mg W ω H σ x S1) (hb : f ρ S ≠ .bad) : tDT K mg W f σ H R := by
  refine ⟨ω, ρ, S, a, ?_⟩
  unfold PostT
  split
  · rename_i d S1 q; exact fun ω' H' e s => hk d S1 q ω' H' e (a.go e s)
  · rename_i x S1 q; exact hx x S1 q
  · rename_i q; exact hb q
theorem tDA_go {f : EvL} {R : List V → Hp → Prop} (a : At K mg ω H σ ρ S)
    (hk : ∀ ds S1, f ρ S = .ok ds S1 → ∀ vs ω1 H1, Ext ω H ω1 H1 → At K mg ω1 H1 σ ρ S1 → Reps K mg ω1 H1 ds vs → R vs H1)
    (hx : ∀ x S1, f ρ S = .ex x S1 → PX K mg W ω H σ x S1) (hb : f ρ S ≠ .bad) : tDA K mg W f σ H R := by
  refine ⟨ω, ρ, S, a, ?_⟩
  unfold PostA
  split
  · rename_i d S1 q; exact fun v ω' H' e s r => hk d S1 q v ω' H' e (a.go e s) r
  · rename_i x S1 q; exact hx x S1 q
  · rename_i q; exact hb q
theorem tDL_go {f : EvL} {R : VK} (a : At K mg ω H σ ρ S)
    (hk : ∀ ds S1, f ρ S = .ok ds S1 → ∀ p vs ω1 H1, Ext ω H ω1 H1 → At K mg ω1 H1 σ ρ S1 → H p = none → H1 p = some (.lst vs) → p ∉ ω1.at_ → ¬ ω1.M p → Reps K mg ω1 H1 ds vs → R (.ref p) H1)
    (hx : ∀ x S1, f ρ S = .ex x S1 → PX K mg W ω H σ x S1) (hb : f ρ S ≠ .bad) : tDL K mg W f σ H R := by
  refine ⟨ω, ρ, S, a, ?_⟩
  unfold PostL
  split
  · rename_i d S1 q; exact fun p vs ω' H' e s n q' n1 n2 r => hk d S1 q p vs ω' H' e (a.go e s) n q' n1 n2 r
  · rename_i x S1 q; exact hx x S1 q
  · rename_i q; exact hb q
/-- f then k: the usual step -/
theorem tD_bind {f : Ev} {k : D → Sto → Res D} {Q : VK} {R : VK} (a : At K mg ω H σ ρ S) (p : PostE K mg W ω H σ ((f ρ S).bind k) Q)
    (hk : ∀ d S1 v ω1 H1, Ext ω H ω1 H1 → At K mg ω1 H1 σ ρ S1 → Rep K mg ω1 H1 d v → PostE K mg W ω1 H1 σ (k d S1) Q → R v H1) : tD K mg W f σ H R :=
  tD_go a (fun d S1 q v ω1 H1 e a1 r => hk d S1 v ω1 H1 e a1 r (by rw [q] at p; exact p.sh e)) (fun x S1 q => by rw [q] at p; exact p) fun q => by rw [q] at p; exact p
theorem tDT_bind {f : EvB} {k : Bool → Sto → Res D} {Q : VK} {R : Bool → Hp → Prop} (a : At K mg ω H σ ρ S) (p : PostE K mg W ω H σ ((f ρ S).bind k) Q)
    (hk : ∀ d S1 ω1 H1, Ext ω H ω1 H1 → At K mg ω1 H1 σ ρ S1 → PostE K mg W ω1 H1 σ (k d S1) Q → R d H1) : tDT K mg W f σ H R :=
  tDT_go a (fun d S1 q ω1 H1 e a1 => hk d S1 ω1 H1 e a1 (by rw [q] at p; exact p.sh e)) (fun x S1 q => by rw [q] at p; exact p) fun q => by rw [q] at p; exact p
theorem tDA_bind {f : EvL} {k : List D → Sto → Res D} {Q : VK} {R : List V → Hp → Prop} (a : At K mg ω H σ ρ S) (p : PostE K mg W ω H σ ((f ρ S).bind k) Q)
    (hk : ∀ d S1 v ω1 H1, Ext ω H ω1 H1 → At K mg ω1 H1 σ ρ S1 → Reps K mg ω1 H1 d v → PostE K mg W ω1 H1 σ (k d S1) Q → R v H1) : tDA K mg W f σ H R :=
  tDA_go a (fun d S1 q v ω1 H1 e a1 r => hk d S1 v ω1 H1 e a1 r (by rw [q] at p; exact p.sh e)) (fun x S1 q => by rw [q] at p; exact p) fun q => by rw [q] at p; exact p
/-- the same where a test is wanted behind -/
theorem tD_bindT {f : Ev} {k : D → Sto → Res Bool} {Q : Bool → Hp → Prop} {R : VK} (a : At K mg ω H σ ρ S) (p : PostT K mg W ω H σ ((f ρ S).bind k) Q)
    (hk : ∀ d S1 v ω1 H1, Ext ω H ω1 H1 → At K mg ω1 H1 σ ρ S1 → Rep K mg ω1 H1 d v → PostT K mg W ω1 H1 σ (k d S1) Q → R v H1) : tD K mg W f σ H R :=
  tD_go a (fun d S1 q v ω1 H1 e a1 r => hk d S1 v ω1 H1 e a1 r (by rw [q] at p; exact p.sh e)) (fun x S1 q => by rw [q] at p; exact p) fun q => by rw [q] at p; exact p
theorem tDT_bindT {f : EvB} {k : Bool → Sto → Res Bool} {Q : Bool → Hp → Prop} {R : Bool → Hp → Prop} (a : At K mg ω H σ ρ S) (p : PostT K mg W ω H σ ((f ρ S).bind k) Q)
    (hk : ∀ d S1 ω1 H1, Ext ω H ω1 H1 → At K mg ω1 H1 σ ρ S1 → PostT K mg W ω1 H1 σ (k d S1) Q → R d H1) : tDT K mg W f σ H R :=
  tDT_go a (fun d S1 q ω1 H1 e a1 => hk d S1 ω1 H1 e a1 (by rw [q] at p; exact p.sh e)) (fun x S1 q => by rw [q] at p; exact p) fun q => by rw [q] at p; exact p
/-- where an argument list is wanted behind -/
theorem tD_bindA {f : Ev} {k : D → Sto → Res (List D)} {Q : List V → Hp → Prop} {R : VK} (a : At K mg ω H σ ρ S) (p : PostA K mg W ω H σ ((f ρ S).bind k) Q)
    (hk : ∀ d S1 v ω1 H1, Ext ω H ω1 H1 → At K mg ω1 H1 σ ρ S1 → Rep K mg ω1 H1 d v → PostA K mg W ω1 H1 σ (k d S1) Q → R v H1) : tD K mg W f σ H R :=
  tD_go a (fun d S1 q v ω1 H1 e a1 r => hk d S1 v ω1 H1 e a1 r (by rw [q] at p; exact p.sh e)) (fun x S1 q => by rw [q] at p; exact p) fun q => by rw [q] at p; exact p
theorem tDA_bindA {f : EvL} {k : List D → Sto → Res (List D)} {Q : List V → Hp → Prop} {R : List V → Hp → Prop} (a : At K mg ω H σ ρ S) (p : PostA K mg W ω H σ ((f ρ S).bind k) Q)
    (hk : ∀ d S1 v ω1 H1, Ext ω H ω1 H1 → At K mg ω1 H1 σ ρ S1 → Reps K mg ω1 H1 d v → PostA K mg W ω1 H1 σ (k d S1) Q → R v H1) : tDA K mg W f σ H R :=
  tDA_go a (fun d S1 q v ω1 H1 e a1 r => hk d S1 v ω1 H1 e a1 r (by rw [q] at p; exact p.sh e)) (fun x S1 q => by rw [q] at p; exact p) fun q => by rw [q] at p; exact p
/-- where a new list is wanted behind -/
theorem tD_bindL {f : Ev} {k : D → Sto → Res (List D)} {Q : VK} {R : VK} (a : At K mg ω H σ ρ S) (p : PostL K mg W ω H σ ((f ρ S).bind k) Q)
    (hk : ∀ d S1 v ω1 H1, Ext ω H ω1 H1 → At K mg ω1 H1 σ ρ S1 → Rep K mg ω1 H1 d v → PostL K mg W ω1 H1 σ (k d S1) Q → R v H1) : tD K mg W f σ H R :=
  tD_go a (fun d S1 q v ω1 H1 e a1 r => hk d S1 v ω1 H1 e a1 r (by rw [q] at p; exact p.sh e)) (fun x S1 q => by rw [q] at p; exact p) fun q => by rw [q] at p; exact p
theorem tDA_bindL {f : EvL} {k : List D → Sto → Res (List D)} {Q : VK} {R : List V → Hp → Prop} (a : At K mg ω H σ ρ S) (p : PostL K mg W ω H σ ((f ρ S).bind k) Q)
    (hk : ∀ d S1 v ω1 H1, Ext ω H ω1 H1 → At K mg ω1 H1 σ ρ S1 → Reps K mg ω1 H1 d v → PostL K mg W ω1 H1 σ (k d S1) Q → R v H1) : tDA K mg W f σ H R :=
  tDA_go a (fun d S1 q v ω1 H1 e a1 r => hk d S1 v ω1 H1 e a1 r (by rw [q] at p; exact p.sh e)) (fun x S1 q => by rw [q] at p; exact p) fun q => by rw [q] at p; exact p
/-- where a statement's end is wanted behind -/
theorem tD_bindS {f : Ev} {k : D → Sto → Fl} {D : Ends} {R : VK} (a : At K mg ω H σ ρ S) (p : PostS K mg W ω H ((f ρ S).thenS ρ k) D)
    (hk : ∀ d S1 v ω1 H1, Ext ω H ω1 H1 → At K mg ω1 H1 σ ρ S1 → Rep K mg ω1 H1 d v → PostS K mg W ω1 H1 (k d S1) D → R v H1) : tD K mg W f σ H R :=
  tD_go a (fun d S1 q v ω1 H1 e a1 r => hk d S1 v ω1 H1 e a1 r (by rw [q] at p; exact p.sh e)) (fun x S1 q => by
    rw [q] at p
    exact fun c dx ω' H' e s r => p c dx σ ω' H' e s (a.go e s).fr r) fun q => by rw [q] at p; exact p
theorem tDT_bindS {f : EvB} {k : Bool → Sto → Fl} {D : Ends} {R : Bool → Hp → Prop} (a : At K mg ω H σ ρ S) (p : PostS K mg W ω H ((f ρ S).thenS ρ k) D)
    (hk : ∀ d S1 ω1 H1, Ext ω H ω1 H1 → At K mg ω1 H1 σ ρ S1 → PostS K mg W ω1 H1 (k d S1) D → R d H1) : tDT K mg W f σ H R :=
  tDT_go a (fun d S1 q ω1 H1 e a1 => hk d S1 ω1 H1 e a1 (by rw [q] at p; exact p.sh e)) (fun x S1 q => by
    rw [q] at p
    exact fun c dx ω' H' e s r => p c dx σ ω' H' e s (a.go e s).fr r) fun q => by rw [q] at p; exact p
theorem tDL_bindS {f : EvL} {k : List D → Sto → Fl} {D : Ends} {R : VK} (a : At K mg ω H σ ρ S) (p : PostS K mg W ω H ((f ρ S).thenS ρ k) D)
    (hk : ∀ d S1 p vs ω1 H1, Ext ω H ω1 H1 → At K mg ω1 H1 σ ρ S1 → H p = none → H1 p = some (.lst vs) → p ∉ ω1.at_ → ¬ ω1.M p → Reps K mg ω1 H1 d vs → PostS K mg W ω1 H1 (k d S1) D → R (.ref p) H1) : tDL K mg W f σ H R :=
  tDL_go a (fun d S1 q p' vs ω1 H1 e a1 n n1 n2 n3 r => hk d S1 p' vs ω1 H1 e a1 n n1 n2 n3 r (by rw [q] at p; exact p.sh e)) (fun x S1 q => by
    rw [q] at p
    exact fun c dx ω' H' e s r => p c dx σ ω' H' e s (a.go e s).fr r) fun q => by rw [q] at p; exact p

/-- the end, where nothing has moved -/
theorem PostE.fin {d : D} {v : V} {Q : VK} (a : At K mg ω H σ ρ S) (p : PostE K mg W ω H σ (.ok d S) Q) (r : Rep K mg ω H d v) : Q v H := p v ω H Ext.refl a.st r
theorem PostT.fin {b : Bool} {Q : Bool → Hp → Prop} (a : At K mg ω H σ ρ S) (p : PostT K mg W ω H σ (.ok b S) Q) : Q b H := p ω H Ext.refl a.st
theorem PostA.fin {ds : List D} {vs : List V} {Q : List V → Hp → Prop} (a : At K mg ω H σ ρ S) (p : PostA K mg W ω H σ (.ok ds S) Q) (r : Reps K mg ω H ds vs) : Q vs H := p vs ω H Ext.refl a.st r
/-- a new tuple -/
theorem PostE.finT {xs : List D} {vs : List V} {Q : VK} (a : At K mg ω H σ ρ S) (p : PostE K mg W ω H σ (.ok (.tup xs) S) Q) (r : Reps K mg ω H xs vs) {q : Addr} (n : H q = none) : Q (.ref q) (upd H q (.tup vs)) :=
  p (.ref q) ω _ (ext_new n) (st_new a.st n) (.tup upd_same (r.keep a.st.ok (ext_new n)))
theorem At.notAt (a : At K mg ω H σ ρ S) {q : Addr} (n : H q = none) : q ∉ ω.at_ := fun hm => by
  obtain ⟨o, h, _⟩ := a.st.ok.kind q hm
  rw [n] at h; cases h
theorem At.notM (a : At K mg ω H σ ρ S) {q : Addr} (n : H q = none) : ¬ ω.M q := fun hm => by
  obtain ⟨o, h⟩ := a.st.ok.imm q hm
  rw [n] at h; cases h
/-- a new list -/
theorem PostL.finL {xs : List D} {vs : List V} {Q : VK} (a : At K mg ω H σ ρ S) (p : PostL K mg W ω H σ (.ok xs S) Q) (r : Reps K mg ω H xs vs) {q : Addr} (n : H q = none) : Q (.ref q) (upd H q (.lst vs)) :=
  p q vs ω _ (ext_new n) (st_new a.st n) n upd_same (a.notAt n) (a.notM n) (r.keep a.st.ok (ext_new n))
end

/-- a new list as a value that nobody will change -/
def eFix (f : EvL) : Ev := fun ρ S => (f ρ S).bind fun xs S1 => .ok (.lst xs) S1
theorem de_fix {X : Cx} {W : WX} {e : Expr} {f : EvL} (h : DL X W e f) : DE X W e (eFix f) := by
  refine PE.imp h fun σ H Q ⟨ω, ρ, S, a, p⟩ => ?_
  have go : ∀ r : Res (List D), f ρ S = r → PostL X.K X.mg W ω H σ r Q := fun r er => by
    unfold eFix at p
    rw [er] at p
    cases r with
    | ok xs S1 =>
      exact fun q vs ω' H' e' s n hq n1 n2 r => p (.ref q) (ω'.fix q) H' (ext_fix n e') (s.fix hq n1) (.lst ⟨.inr rfl, .inl hq⟩ r.fix)
    | ex x S1 => exact p
    | bad => exact p
  exact ⟨ω, ρ, S, a, go _ rfl⟩
end PL
end
section
set_option Elab.async false
set_option linter.all false
set_option maxRecDepth 100000
set_option maxHeartbeats 4000000
set_option autoImplicit false
/-! Part c: data read as a whole; operators, comparisons. -/
namespace PL
open PySem L2

/-! ### data without the store -/
def optAll {α β : Type} (f : α → Option β) : List α → Option (List β)
  | [] => some []
  | a :: r => match f a, optAll f r with
    | some x, some xs => some (x :: xs)
    | _, _ => none
def dctPy (f : D → Option PyData) (kvs : List (D × D)) : Option PyData :=
  if (kvs.all fun kv => (keyOf kv.1).isSome) = true then
    match optAll f (kvs.map (·.1)), optAll f (kvs.map (·.2)) with
    | some ks, some vs => some (.dict (ks.zip vs))
    | _, _ => none
  else none
def toPy (S : Sto) : Nat → D → Option PyData
  | _, .non => some .none
  | _, .bl b => some (.bool b)
  | _, .int i => some (.int i)
  | _, .str x => some (.str x)
  | n + 1, .tup xs => (optAll (toPy S n) xs).map .tuple
  | n + 1, .lst xs => (optAll (toPy S n) xs).map .list
  | n + 1, .scr xs => (optAll (toPy S n) xs).map .list
  | n + 1, .ref l => match S[l]? with
    | some (.lst xs) => (optAll (toPy S n) xs).map .list
    | some (.dct _ kvs) => dctPy (toPy S n) kvs
    | _ => none
  | n + 1, .dct _ kvs => dctPy (toPy S n) kvs
  | _, _ => none

section
variable {X : Cx} {pins : List (Addr × Obj)} {σ : St} {H : Hp} {s : Shared} {ω : Om} {S : Sto}
theorem readsAll_of {n : Nat} (ih : ∀ d p v u, toPy S n d = some p → Rep X.K X.mg ω H d v → RelV v u → ∃ as, Reads s.heap u p as) :
    ∀ {ds : List D} {ps : List PyData} {vs : List V} {us : List Value}, optAll (toPy S n) ds = some ps → Reps X.K X.mg ω H ds vs → Vals vs us → ∃ as, ReadsAll s.heap us ps as
  | [], ps, _, _, h, r, q => by
    cases r; cases q; cases h; exact ⟨_, .nil⟩
  | d :: ds, ps, _, _, h, .cons r rs, .cons q qs => by
    unfold optAll at h
    split at h
    · rename_i x xs h1 h2
      cases h
      obtain ⟨as, a1⟩ := ih d x _ _ h1 r q
      obtain ⟨bs, a2⟩ := readsAll_of ih h2 rs qs
      exact ⟨_, .cons a1 a2⟩
    · cases h
theorem vals_snd {κ : Type} {kvs : List (κ × V)} {ws : List (κ × Value)} (r : KV kvs ws) : Vals (kvs.map (·.2)) (ws.map (·.2)) := by
  unfold KV at r
  induction r with
  | nil => exact .nil
  | cons h _ ih => exact .cons h.2 ih
theorem pairs_vals {P : Program} {w : World} : ∀ {es : List DictEntry} {ws : List (Key × Value)}, Pairs (mixKind P w) es ws → es.map (·.val) = ws.map (·.2) ∧ Vals (ws.map fun kv => kV kv.1) (es.map (·.key))
  | _, _, .nil => ⟨rfl, .nil⟩
  | _, _, .cons h1 h2 r => by
    obtain ⟨a, b⟩ := pairs_vals r
    refine ⟨by simp only [List.map_cons, h2, a], ?_⟩
    refine .cons ?_ b
    rcases keyIs_shape h1 with ⟨i, t, e1, e2⟩ | ⟨x, t, e1, e2⟩
    · show RelV (kV _) _
      rw [e1]; exact ⟨t, e2⟩
    · show RelV (kV _) _
      rw [e1]; exact ⟨t, e2⟩
theorem keyOf_rep {k : D} {κ : Key} (h : keyOf k = some κ) : Rep X.K X.mg ω H k (kV κ) := by
  cases k <;> simp [keyOf] at h
  · subst h; exact .int _
  · subst h; exact .str _
theorem repK_split : ∀ {kvs : List (D × D)} {ws : List (Key × V)}, RepK X.K X.mg ω H kvs ws → Reps X.K X.mg ω H (kvs.map (·.1)) (ws.map fun kv => kV kv.1) ∧ Reps X.K X.mg ω H (kvs.map (·.2)) (ws.map (·.2))
  | _, _, .nil => ⟨.nil, .nil⟩
  | _, _, .cons h r rs => by
    obtain ⟨a, b⟩ := repK_split rs
    exact ⟨.cons (keyOf_rep h) a, .cons r b⟩
theorem zip_map1 {α β : Type} : ∀ {xs : List α} {ys : List β}, xs.length = ys.length → (xs.zip ys).map (·.1) = xs ∧ (xs.zip ys).map (·.2) = ys
  | [], [], _ => ⟨rfl, rfl⟩
  | x :: xs, y :: ys, h => by
    obtain ⟨a, b⟩ := zip_map1 (xs := xs) (ys := ys) (by simpa using h)
    exact ⟨by simp [a], by simp [b]⟩
theorem optAll_length {α β : Type} {f : α → Option β} : ∀ {xs : List α} {ys : List β}, optAll f xs = some ys → xs.length = ys.length
  | [], _, h => by cases h; rfl
  | x :: xs, ys, h => by
    unfold optAll at h
    split at h
    · rename_i a b h1 h2
      cases h
      simp [optAll_length h2]
    · cases h
theorem kv_keys : ∀ {ws : List (Key × V)} {us : List (Key × Value)}, KV ws us → (ws.map fun kv => kV kv.1) = us.map fun kv => kV kv.1 := by
  intro ws us kv
  unfold KV at kv
  induction kv with
  | nil => rfl
  | cons h _ ih =>
    simp only [List.map_cons]
    rw [ih, h.1]
theorem reads_dct {n : Nat} (I : L2.Inv X pins σ H s) (ih : ∀ d p v u, toPy S n d = some p → Rep X.K X.mg ω H d v → RelV v u → ∃ as, Reads s.heap u p as) {kvs : List (D × D)} {ws : List (Key × V)} {a : Addr} {p : PyData}
    (h : dctPy (toPy S n) kvs = some p) (hh : Rd H a (.dK ws)) (r : RepK X.K X.mg ω H kvs ws) : ∃ as, Reads s.heap (.ref a) p as := by
  unfold dctPy at h
  split at h
  · split at h
    · rename_i ks vs h1 h2
      cases h
      obtain ⟨_, _, us, kv, o, es, ep, e1, e2, e3, _, e5, _⟩ := hh.ok I.hok
      obtain ⟨r1, r2⟩ := repK_split r
      obtain ⟨q1, q2⟩ := pairs_vals e5
      have q3 := vals_snd kv
      rw [kv_keys kv] at r1
      obtain ⟨as, a1⟩ := readsAll_of ih h1 r1 q2
      rw [← q1] at q3
      obtain ⟨bs, a2⟩ := readsAll_of ih h2 r2 q3
      have hl : ks.length = vs.length := by
        have l1 := optAll_length h1
        have l2 := optAll_length h2
        simp at l1 l2
        omega
      obtain ⟨z1, z2⟩ := zip_map1 hl
      exact ⟨_, .dict e1 e2.1 e3 (by rw [z1]; exact a1) (by rw [z2]; exact a2)⟩
    · cases h
  · cases h
theorem reads_dctT {n : Nat} (I : L2.Inv X pins σ H s) {kvs : List (D × D)} {ws : List (List Key × V)} {a : Addr} {p : PyData}
    (h : dctPy (toPy S n) kvs = some p) (hh : Rd H a (.dT ws)) (r : RepT X.K X.mg ω H kvs ws) : ∃ as, Reads s.heap (.ref a) p as := by
  unfold dctPy at h
  split at h
  · rename_i hk
    cases r with
    | nil =>
      simp [optAll] at h
      subst h
      obtain ⟨_, _, xs, pr, o, es, ep, e1, e2, e3, e4, _⟩ := hh.ok I.hok
      cases pr
      have e5 : es.toList = [] := by simpa using e4
      exact ⟨_, .dict (kvs := []) e1 e2.1 e3 (by rw [e5]; exact .nil) (by rw [e5]; exact .nil)⟩
    | @cons k d κ v ds vs h1 h2 h3 =>
      exfalso
      simp only [List.all_cons, Bool.and_eq_true] at hk
      cases k <;> simp [keyOf] at hk <;> simp [tkeyOf] at h1
  · cases h
/-- a value of ours is read by the machine as its data -/
theorem reads_of (I : L2.Inv X pins σ H s) (st : St0 X.K X.mg ω H S) : ∀ (n : Nat) (d : D) (p : PyData) (v : V) (u : Value), toPy S n d = some p → Rep X.K X.mg ω H d v → RelV v u → ∃ as, Reads s.heap u p as
  | _, .non, p, _, _, h, r, q => by simp [toPy] at h; subst h; cases r; cases q; exact ⟨_, .none⟩
  | _, .bl b, p, _, _, h, r, q => by simp [toPy] at h; subst h; cases r; cases q; exact ⟨_, .bool b⟩
  | _, .int b, p, _, _, h, r, q => by simp [toPy] at h; subst h; cases r; obtain ⟨t, rfl⟩ := q; exact ⟨_, .int b t⟩
  | _, .str b, p, _, _, h, r, q => by simp [toPy] at h; subst h; cases r; obtain ⟨t, rfl⟩ := q; exact ⟨_, .str b t⟩
  | 0, .tup _, _, _, _, h, _, _ => by simp [toPy] at h
  | 0, .lst _, _, _, _, h, _, _ => by simp [toPy] at h
  | 0, .scr _, _, _, _, h, _, _ => by simp [toPy] at h
  | 0, .ref _, _, _, _, h, _, _ => by simp [toPy] at h
  | 0, .dct _ _, _, _, _, h, _, _ => by simp [toPy] at h
  | n + 1, .tup xs, p, _, _, h, .tup hq r, q => by
    cases q
    simp only [toPy, Option.map_eq_some_iff] at h
    obtain ⟨ps, h, rfl⟩ := h
    obtain ⟨its, rv, ⟨o, ho, hc, m, hd⟩, _⟩ := I.tuple (SqT.of hq)
    obtain ⟨as, hr⟩ := readsAll_of (fun d p v u => reads_of I st n d p v u) h r rv
    exact ⟨_, Reads.tuple ho hc hd (by simpa using hr)⟩
  | n + 1, .lst xs, p, _, _, h, .lst hq r, q => by
    cases q
    simp only [toPy, Option.map_eq_some_iff] at h
    obtain ⟨ps, h, rfl⟩ := h
    obtain ⟨its, rv, ⟨o, m, ho, hc, _, hd⟩, _⟩ := I.list (SqL.of hq.lst)
    obtain ⟨as, hr⟩ := readsAll_of (fun d p v u => reads_of I st n d p v u) h r rv
    exact ⟨_, Reads.list ho hc hd (by simpa using hr)⟩
  | n + 1, .scr xs, p, _, _, h, .scr hq r, q => by
    cases q
    simp only [toPy, Option.map_eq_some_iff] at h
    obtain ⟨ps, h, rfl⟩ := h
    have hs : SqL X.K H _ _ := hq.elim (fun z => .inl (.inr z)) .inr
    obtain ⟨its, rv, ⟨o, m, ho, hc, _, hd⟩, _⟩ := I.list hs
    obtain ⟨as, hr⟩ := readsAll_of (fun d p v u => reads_of I st n d p v u) h r rv
    exact ⟨_, Reads.list ho hc hd (by simpa using hr)⟩
  | n + 1, .dct _ kvs, p, _, _, h, .dct hq r, q => by
    cases q
    simp only [toPy] at h
    exact reads_dct I (fun d p v u => reads_of I st n d p v u) h hq.rd r
  | n + 1, .dct _ kvs, p, _, _, h, .dctT hq r, q => by
    cases q
    simp only [toPy] at h
    exact reads_dctT I h hq.rd r
  | n + 1, .ref l, p, _, _, h, .ref hr, q => by
    cases q
    simp only [toPy] at h
    split at h
    · rename_i xs hl
      obtain ⟨o, ho, r⟩ := st.obs _ _ _ hl hr
      cases r with
      | lst r =>
      simp only [Option.map_eq_some_iff] at h
      obtain ⟨ps, h, rfl⟩ := h
      obtain ⟨its, rv, ⟨o, m, ho, hc, _, hd⟩, _⟩ := I.list (SqL.of ho)
      obtain ⟨as, hr⟩ := readsAll_of (fun d p v u => reads_of I st n d p v u) h r rv
      exact ⟨_, Reads.list ho hc hd (by simpa using hr)⟩
    · rename_i t kvs hl
      obtain ⟨o, ho, r⟩ := st.obs _ _ _ hl hr
      cases r with
      | dct r => exact reads_dct I (fun d p v u => reads_of I st n d p v u) h (.inl ho) r
      | dctT r => exact reads_dctT I h (.inl ho) r
    · cases h
  | _, .ins _ _, _, _, _, h, _, _ => by simp [toPy] at h
  | _, .glo _, _, _, _, h, _, _ => by simp [toPy] at h
  | _, .ty _, _, _, _, h, _, _ => by simp [toPy] at h
theorem depthAll_of {n : Nat} (ih : ∀ d p, toPy S n d = some p → p.depth ≤ n) : ∀ {ds : List D} {ps : List PyData}, optAll (toPy S n) ds = some ps → PyData.depthAll ps ≤ n
  | [], ps, h => by cases h; simp [PyData.depthAll]
  | d :: ds, ps, h => by
    unfold optAll at h
    split at h
    · rename_i x xs h1 h2
      cases h
      have a := ih d x h1
      have b := depthAll_of ih h2
      simp only [PyData.depthAll]; omega
    · cases h
theorem depthKv_le : ∀ {ks vs : List PyData}, PyData.depthKv (ks.zip vs) ≤ max (PyData.depthAll ks) (PyData.depthAll vs)
  | [], _ => by simp [PyData.depthKv]
  | _ :: _, [] => by simp [PyData.depthKv]
  | k :: ks, v :: vs => by
    have := depthKv_le (ks := ks) (vs := vs)
    simp only [List.zip_cons_cons, PyData.depthKv, PyData.depthAll]; omega
theorem depth_dct {n : Nat} (ih : ∀ d p, toPy S n d = some p → p.depth ≤ n) {kvs : List (D × D)} {p : PyData} (h : dctPy (toPy S n) kvs = some p) : p.depth ≤ n + 1 := by
  unfold dctPy at h
  split at h
  · split at h
    · rename_i ks vs h1 h2
      cases h
      have a := depthAll_of ih h1
      have b := depthAll_of ih h2
      have c := depthKv_le (ks := ks) (vs := vs)
      simp only [PyData.depth]; omega
    · cases h
  · cases h
theorem depth_of : ∀ (n : Nat) (d : D) (p : PyData), toPy S n d = some p → p.depth ≤ n
  | n, .non, p, h => by cases n <;> (simp [toPy] at h; subst h; simp [PyData.depth])
  | n, .bl b, p, h => by cases n <;> (simp [toPy] at h; subst h; simp [PyData.depth])
  | n, .int b, p, h => by cases n <;> (simp [toPy] at h; subst h; simp [PyData.depth])
  | n, .str b, p, h => by cases n <;> (simp [toPy] at h; subst h; simp [PyData.depth])
  | 0, .tup _, _, h => by simp [toPy] at h
  | 0, .lst _, _, h => by simp [toPy] at h
  | 0, .scr _, _, h => by simp [toPy] at h
  | 0, .ref _, _, h => by simp [toPy] at h
  | 0, .dct _ _, _, h => by simp [toPy] at h
  | n + 1, .tup xs, p, h => by
    simp only [toPy, Option.map_eq_some_iff] at h
    obtain ⟨ps, h, rfl⟩ := h
    have := depthAll_of (fun d p => depth_of n d p) h
    simp only [PyData.depth]; omega
  | n + 1, .lst xs, p, h => by
    simp only [toPy, Option.map_eq_some_iff] at h
    obtain ⟨ps, h, rfl⟩ := h
    have := depthAll_of (fun d p => depth_of n d p) h
    simp only [PyData.depth]; omega
  | n + 1, .scr xs, p, h => by
    simp only [toPy, Option.map_eq_some_iff] at h
    obtain ⟨ps, h, rfl⟩ := h
    have := depthAll_of (fun d p => depth_of n d p) h
    simp only [PyData.depth]; omega
  | n + 1, .dct _ kvs, p, h => by
    simp only [toPy] at h
    exact depth_dct (fun d p => depth_of n d p) h
  | n + 1, .ref l, p, h => by
    simp only [toPy] at h
    split at h
    · simp only [Option.map_eq_some_iff] at h
      obtain ⟨ps, h, rfl⟩ := h
      have := depthAll_of (fun d p => depth_of n d p) h
      simp only [PyData.depth]; omega
    · exact depth_dct (fun d p => depth_of n d p) h
    · cases h
  | n, .ins _ _, _, h => by cases n <;> simp [toPy] at h
  | n, .glo _, _, h => by cases n <;> simp [toPy] at h
  | n, .ty _, _, h => by cases n <;> simp [toPy] at h
end
end PL
end
section
set_option Elab.async false
set_option linter.all false
set_option maxRecDepth 100000
set_option maxHeartbeats 4000000
set_option autoImplicit false
/-! Part d: operators and comparisons on data. -/
namespace PL
open PySem L2

def listOf (S : Sto) : D → Option (List D)
  | .lst xs => some xs
  | .ref l => match S[l]? with
    | some (.lst xs) => some xs
    | _ => none
  | _ => none
def seqOf (S : Sto) : D → Option (List D)
  | .tup xs => some xs
  | .scr xs => some xs
  | .lst xs => some xs
  | .ref l => match S[l]? with
    | some (.lst xs) => some xs
    | _ => none
  | _ => none
def SqV (K : PySem.W.Frag) (H : Hp) (a : Addr) (vs : List V) : Prop := SqL K H a vs ∨ SqT K H a vs
theorem Scr.sq {K : PySem.W.Frag} {H : Hp} {a : Addr} {vs : List V} (h : Scr K H a vs) : SqL K H a vs := h.elim (fun z => .inl (.inr z)) .inr
section
variable {K : PySem.W.Frag} {mg : Str → Option Value} {ω ω1 : Om} {H H1 : Hp} {S : Sto} {d : D} {v : V} {xs : List D}
theorem listOf_rep (st : St0 K mg ω H S) (h : listOf S d = some xs) (r : Rep K mg ω H d v) : ∃ a vs, v = .ref a ∧ H a = some (.lst vs) ∧ Reps K mg ω H xs vs := by
  cases d <;> simp only [listOf] at h <;> try cases h
  · cases r with
    | lst hq r => exact ⟨_, _, rfl, hq.lst, r⟩
  · split at h
    · rename_i l ys hl
      cases h
      cases r with
      | ref hr =>
        obtain ⟨o, ho, r⟩ := st.obs _ _ _ hl hr
        cases r with
        | lst r => exact ⟨_, _, rfl, ho, r⟩
    · cases h
theorem seqOf_rep (st : St0 K mg ω H S) (h : seqOf S d = some xs) (r : Rep K mg ω H d v) : ∃ a vs, v = .ref a ∧ SqV K H a vs ∧ Reps K mg ω H xs vs := by
  cases d <;> simp only [seqOf] at h <;> try cases h
  · cases r with
    | tup hq r => exact ⟨_, _, rfl, .inr (SqT.of hq), r⟩
  · cases r with
    | lst hq r => exact ⟨_, _, rfl, .inl (SqL.of hq.lst), r⟩
  · cases r with
    | scr hq r => exact ⟨_, _, rfl, .inl (hq.elim (fun z => .inl (.inr z)) .inr), r⟩
  · split at h
    · rename_i l ys hl
      cases h
      cases r with
      | ref hr =>
        obtain ⟨o, ho, r⟩ := st.obs _ _ _ hl hr
        cases r with
        | lst r => exact ⟨_, _, rfl, .inl (SqL.of ho), r⟩
    · cases h
end

/-! ### ends without exceptions -/
section
variable (K : PySem.W.Frag) (mg : Str → Option Value)
def PostB (ω : Om) (H : Hp) (r : Res D) (Q : VK) : Prop :=
  match r with
  | .ok d S => ∀ v ω' H', Ext ω H ω' H' → St0 K mg ω' H' S → Rep K mg ω' H' d v → Q v H'
  | _ => False
def rB2 (fn : D → D → Sto → Res D) : R2 := fun x y H Q => ∃ ω d e S, St0 K mg ω H S ∧ Rep K mg ω H d x ∧ Rep K mg ω H e y ∧ PostB K mg ω H (fn d e S) Q
def rB1 (fn : D → Sto → Res D) : V → Hp → VK → Prop := fun x H Q => ∃ ω d S, St0 K mg ω H S ∧ Rep K mg ω H d x ∧ PostB K mg ω H (fn d S) Q
def rBs (fn : List D → Sto → Res D) : List V → Hp → VK → Prop := fun xs H Q => ∃ ω ds S, St0 K mg ω H S ∧ Reps K mg ω H ds xs ∧ PostB K mg ω H (fn ds S) Q
end
section
variable {K : PySem.W.Frag} {mg : Str → Option Value} {W : WX} {σ : St} {ω ω1 : Om} {H H1 : Hp} {S : Sto} {d : D} {v : V} {Q : VK}
theorem PostB.fin (st : St0 K mg ω H S) (p : PostB K mg ω H (.ok d S) Q) (r : Rep K mg ω H d v) : Q v H := p v ω H Ext.refl st r
theorem PostB.finT {xs : List D} {vs : List V} (st : St0 K mg ω H S) (p : PostB K mg ω H (.ok (.tup xs) S) Q) (r : Reps K mg ω H xs vs) {q : Addr} (n : H q = none) : Q (.ref q) (upd H q (.tup vs)) :=
  p (.ref q) ω _ (ext_new n) (st_new st n) (.tup upd_same (r.keep st.ok (ext_new n)))
theorem fresh_at (k : Ok ω H) {q : Addr} (n : H q = none) : q ∉ ω.at_ := fun hm => by
  obtain ⟨o, h, _⟩ := k.kind q hm
  rw [n] at h; cases h
theorem PostB.finL {xs : List D} {vs : List V} (st : St0 K mg ω H S) (p : PostB K mg ω H (.ok (.lst xs) S) Q) (r : Reps K mg ω H xs vs) {q : Addr} (n : H q = none) : Q (.ref q) (upd H q (.lst vs)) :=
  p (.ref q) (ω.fix q) _ (ext_fix n (ext_new n)) ((st_new st n).fix upd_same (fresh_at st.ok n)) (.lst ⟨.inr rfl, .inl upd_same⟩ (r.keep st.ok (ext_new n)).fix)
theorem PostE.toB {r : Res D} (p : PostE K mg W ω H σ r Q) (hx : ∀ x S, r ≠ .ex x S) : PostB K mg ω H r Q := by
  cases r with
  | ok d S => exact p
  | ex x S => exact absurd rfl (hx x S)
  | bad => exact p
end
def Res.calm {α : Type} : Res α → Bool
  | .ex _ _ => false
  | _ => true
def OpD (X : Cx) (f : Value → Value → Sem Value) (fn : D → D → Sto → Res D) : Prop := OpR X f (rB2 X.K X.mg fn)
def UnD (X : Cx) (f : Value → Sem Value) (fn : D → Sto → Res D) : Prop := UnR X f (rB1 X.K X.mg fn)
def CallD (X : Cx) (f : Value) (fn : List D → Sto → Res D) : Prop := CallR X f (rBs X.K X.mg fn)

/-! ### arithmetic -/
def lenFits (n : Nat) : Bool := decide (n ≤ sizeLine)
def mulFits (i j : Int) : Bool := decide (i.natAbs.log2 + j.natAbs.log2 < 1000000)
def binD : Operator → D → D → Sto → Res D
  | .Add, .int i, .int j, S => .ok (.int (i + j)) S
  | .Sub, .int i, .int j, S => .ok (.int (i - j)) S
  | .Mult, .int i, .int j, S => if mulFits i j = true then .ok (.int (i * j)) S else .bad
  | .FloorDiv, .int i, .int j, S => if 0 < j ∧ j.natAbs.log2 < 9000 then .ok (.int (i / j)) S else .bad
  | .Mod, .int i, .int j, S => if 0 < j then .ok (.int (i % j)) S else .bad
  | .Pow, .int i, .int j, S => if 0 ≤ j ∧ (Builtin.Int.intBits i : Int) * j ≤ 2 ^ 27 then .ok (.int (i ^ j.toNat)) S else .bad
  | .Add, .str a, .str b, S => if lenFits (a.length + b.length) = true then .ok (.str (a ++ b)) S else .bad
  | .Mult, .str a, .int n, S => if -(2 ^ 63) ≤ n ∧ n.toNat ≤ 16777216 ∧ a.length * n.toNat ≤ 16777216 then .ok (.str (Txt.mul a n)) S else .bad
  | .Add, .tup xs, .tup ys, S => if lenFits (xs.length + ys.length) = true then .ok (.tup (xs ++ ys)) S else .bad
  | .Mult, .tup xs, .int k, S => if k = 1 then .ok (.tup xs) S else if xs ≠ [] ∧ 2 ≤ k ∧ k ≤ 1000 ∧ xs.length ≤ 1000 then .ok (.tup (List.replicate k.toNat xs).flatten) S else .bad
  | .Add, x, y, S => match listOf S x, listOf S y with
    | some xs, some ys => if lenFits (xs.length + ys.length) = true then .ok (.lst (xs ++ ys)) S else .bad
    | _, _ => .bad
  | .Mult, x, .int k, S => match listOf S x with
    | some xs => if -(2 ^ 63) ≤ k ∧ k < 2 ^ 63 ∧ lenFits (xs.length * k.toNat) = true then .ok (.lst (List.replicate k.toNat xs).flatten) S else .bad
    | _ => .bad
  | _, _, _, _ => .bad

theorem Reps.flat {K : PySem.W.Frag} {mg : Str → Option Value} {ω : Om} {H : Hp} {ds : List D} {vs : List V} (r : Reps K mg ω H ds vs) : ∀ k : Nat, Reps K mg ω H (List.replicate k ds).flatten (List.replicate k vs).flatten
  | 0 => .nil
  | k + 1 => by
    rw [List.replicate_succ, List.replicate_succ, List.flatten_cons, List.flatten_cons]
    exact r.append (r.flat k)
theorem mulFits_ok {i j : Int} (h : mulFits i j = true) : CMulW i j := by
  unfold mulFits at h
  unfold CMulW
  exact of_decide_eq_true h
theorem lenFits_le {n : Nat} (h : lenFits n = true) : n ≤ sizeLine := of_decide_eq_true h

/-! ### a tuple once -/
theorem tuple_mulS (l : Addr) (xs : Array Value) (n : Nat) (dd : Option Addr) (sl : Array (Option Value)) (u : Tok) :
    Meets (Builtin.«tuple.__mul__» ⟨[.ref l, .int 1 u], []⟩) (fun _ R s => s.heap.get? l = some { cls := .type "tuple", dict := dd, data := .seq xs n, slots := sl } ∧ R (.ok (.ret (Value.ref l))) s) := .of_wp fun prog w A R ⟨hp, g, d, tk, os⟩ ⟨hl, h⟩ => by
  have f1 := AutoSeq1.idx_int
  wp_walk using AutoSeq1.wpAny_loadPart' hl
  exact ⟨_, rfl, h⟩
theorem op_oneT {X : Cx} : OpR X (binaryOp .Mult) (fun x y H Q => ∃ l xs, x = .ref l ∧ y = .int 1 ∧ SqT X.K H l xs ∧ Q (.ref l) H) := by
  intro pins s σ H x y v u Q I rx ry ⟨l, xs, e1, e2, hT, q⟩
  subst e1 e2
  cases rx
  obtain ⟨t, rfl⟩ := ry
  obtain ⟨its, r, ⟨⟨cls, dd, data, sl⟩, ho, hc, n, hd⟩, hs⟩ := I.tuple hT
  simp only at hc hd
  subst hc hd
  exact wpAny_binaryOp_repeat_ref (T := "tuple") (U := "int") (by decide) ⟨_, ho, rfl⟩ (fun s' => PySem.typeIs_int s' 1 t) noFill_tuple_mul F.fills_int_mul F.slot_int_rmul repeat_tuple F.slot_int_index.lookup (call_meets F.slot_int_rmul (PySem.typeIs_int s 1 t) F.entry_int_rmul (F.args_int_rmul_2 _ _) (int_rmul_tuple 1 t l its.toArray n dd sl) ⟨ho, rfl, ⟨_, ho, rfl⟩, call_meets F.slot_tuple_mul ⟨_, ho, rfl⟩ F.entry_tuple_mul (F.args_tuple_mul_2 _ _) (tuple_mulS l its.toArray n dd sl t) ⟨ho, .ref l, H, I, rfl, q⟩⟩)
section
variable {X : Cx}
/-- by a rule of the hand layer -/
theorem opD_of {f : Value → Value → Sem Value} {fn : D → D → Sto → Res D} (h : ∀ (pins : List (Addr × Obj)) (s : Shared) (σ : St) (H : Hp) (x y : V) (v u : Value) (Q : VK) (ω : Om) (d e : D) (S : Sto), Inv X pins σ H s → RelV x v → RelV y u → St0 X.K X.mg ω H S →
    Rep X.K X.mg ω H d x → Rep X.K X.mg ω H e y → PostB X.K X.mg ω H (fn d e S) Q → wpAny (model X.prog X.w) X.A (f v u) (EP X pins σ Q) X.xe s) : OpD X f fn :=
  fun pins s σ H x y v u Q I rx ry ⟨ω, d, e, S, st, r1, r2, p⟩ => h pins s σ H x y v u Q ω d e S I rx ry st r1 r2 p
theorem pow_ok {i j : Int} : OpR X (binaryOp .Pow) (rI (fun i j => 0 ≤ j ∧ (Builtin.Int.intBits i : Int) * j ≤ 2 ^ 27) fun i j => .int (i ^ j.toNat)) := opI fun _ _ _ _ _ _ _ hc q => PyProof.Rows.pow_int hc.1 hc.2 q
theorem opD_bin (op : Operator) : OpD X (binaryOp op) (binD op) := by
  refine opD_of fun pins s σ H x y v u Q ω d e S I rx ry st r1 r2 p => ?_
  unfold binD at p
  split at p
  · cases r1; cases r2
    exact op_add pins s σ H _ _ v u Q I rx ry ⟨_, _, rfl, rfl, p.fin st (.int _)⟩
  · cases r1; cases r2
    exact op_sub pins s σ H _ _ v u Q I rx ry ⟨_, _, rfl, rfl, p.fin st (.int _)⟩
  · cases r1; cases r2
    split at p
    · rename_i hm
      exact op_mulW pins s σ H _ _ v u Q I rx ry ⟨_, _, rfl, rfl, mulFits_ok hm, p.fin st (.int _)⟩
    · exact p.elim
  · cases r1; cases r2
    split at p
    · rename_i hm
      exact op_fdivW pins s σ H _ _ v u Q I rx ry ⟨_, _, rfl, rfl, hm, p.fin st (.int _)⟩
    · exact p.elim
  · cases r1; cases r2
    split at p
    · rename_i hm
      exact op_mod pins s σ H _ _ v u Q I rx ry ⟨_, _, rfl, rfl, hm, p.fin st (.int _)⟩
    · exact p.elim
  · cases r1; cases r2
    split at p
    · rename_i hm
      exact pow_ok (i := 0) (j := 0) pins s σ H _ _ v u Q I rx ry ⟨_, _, rfl, rfl, hm, p.fin st (.int _)⟩
    · exact p.elim
  · cases r1; cases r2
    split at p
    · rename_i hm
      exact op_add_str pins s σ H _ _ v u Q I rx ry ⟨_, _, rfl, rfl, lenFits_le hm, p.fin st (.str _)⟩
    · exact p.elim
  · cases r1; cases r2
    split at p
    · rename_i hm
      obtain ⟨h1, h2, h3⟩ := hm
      obtain ⟨t, rfl⟩ := rx
      obtain ⟨t', rfl⟩ := ry
      refine SB.mul (PyProof.Rows.mulOk_of _ _ (Nat.le_refl _) (Int.self_le_toNat _) h1 h2 h3) fun t' k => ?_
      exact ⟨.str _, H, I.tok _, ⟨_, rfl⟩, p.fin st (.str _)⟩
    · exact p.elim
  · rename_i xs ys
    cases r1 with
    | tup h1 q1 =>
    cases r2 with
    | tup h2 q2 =>
    split at p
    · rename_i hm
      have hl := lenFits_le hm
      rw [q1.length, q2.length] at hl
      refine op_catA pins s σ H _ _ v u Q I rx ry ⟨_, _, _, _, rfl, rfl, SqT.of h1, SqT.of h2, hl, fun e => ?_, fun _ e => ?_, fun _ _ q n => ?_⟩
      · subst e; cases q1
        exact p.fin st (.tup h2 q2)
      · subst e; cases q2
        rw [List.append_nil] at p
        exact p.fin st (.tup h1 q1)
      · exact p.finT st (q1.append q2) n
    · exact p.elim
  · rename_i xs k
    cases r1 with
    | tup h1 q1 =>
    cases r2
    split at p
    · rename_i hk
      subst hk
      exact op_oneT pins s σ H _ _ v u Q I rx ry ⟨_, _, rfl, rfl, SqT.of h1, p.fin st (.tup h1 q1)⟩
    split at p
    · rename_i hm
      obtain ⟨a1, a2, a3, a4⟩ := hm
      refine op_repT pins s σ H _ _ v u Q I rx ry ⟨_, _, _, rfl, rfl, SqT.of h1, fun e => ?_, a2, a3, by rw [← q1.length]; exact a4, fun q n => ?_⟩
      · subst e; cases q1; exact a1 rfl
      · exact p.finT st (q1.flat _) n
    · exact p.elim
  · split at p
    · rename_i xs ys e1 e2
      obtain ⟨a, vs, rfl, ha, q1⟩ := listOf_rep st e1 r1
      obtain ⟨b, ws, rfl, hb, q2⟩ := listOf_rep st e2 r2
      split at p
      · rename_i hm
        have hl := lenFits_le hm
        rw [q1.length, q2.length] at hl
        exact op_cat pins s σ H _ _ v u Q I rx ry ⟨_, _, _, _, rfl, rfl, ha, hb, hl, fun q n => p.finL st (q1.append q2) n⟩
      · exact p.elim
    · exact p.elim
  · split at p
    · rename_i xs e1
      obtain ⟨a, vs, rfl, ha, q1⟩ := listOf_rep st e1 r1
      cases r2
      split at p
      · rename_i hm
        obtain ⟨a1, a2, a3⟩ := hm
        have hl := lenFits_le a3
        rw [q1.length] at hl
        exact op_rep pins s σ H _ _ v u Q I rx ry ⟨_, _, _, rfl, rfl, ha, a1, a2, hl, fun q n => p.finL st (q1.flat _) n⟩
      · exact p.elim
    · exact p.elim
  · exact p.elim
def eBin (op : Operator) (f g : Ev) : Ev := fun ρ S => (f ρ S).bind fun d S1 => (g ρ S1).bind fun e S2 => binD op d e S2
theorem binD_calm (op : Operator) (x y : D) (S : Sto) : ∀ z S', binD op x y S ≠ .ex z S' := by
  intro z S' h
  unfold binD at h
  split at h <;> first | cases h | (split at h <;> first | cases h | (split at h <;> cases h))
theorem tOp_of {W : WX} {f g : Ev} {fn : D → D → Sto → Res D} {r : R2} (hn : ∀ x y S z S', fn x y S ≠ .ex z S') (hr : ∀ x y H Q, rB2 X.K X.mg fn x y H Q → r x y H Q) {σ : St} {H : Hp} {Q : VK}
    (h : tD X.K X.mg W (fun ρ S => (f ρ S).bind fun d S1 => (g ρ S1).bind fun e S2 => fn d e S2) σ H Q) : tOp r (tD X.K X.mg W f) (tD X.K X.mg W g) σ H Q := by
  obtain ⟨ω, ρ, S, a, p⟩ := h
  refine tD_bind a p fun d S1 v ω1 H1 e1 a1 r1 p1 => ?_
  refine tD_bind a1 p1 fun d2 S2 v2 ω2 H2 e2 a2 r2 p2 => ?_
  exact hr _ _ _ _ ⟨ω2, d, d2, S2, a2.st, r1.keep a1.st.ok e2, r2, p2.toB fun z S' => hn _ _ _ z S'⟩
theorem de_bin {W : WX} {a b : Expr} {f g : Ev} {op : Operator} {pos : Pos} (ha : DE X W a f) (hb : DE X W b g) : DE X W (.BinOp a op b pos) (eBin op f g) :=
  PE.imp (pe_op (opD_bin op) ha hb) fun σ H Q h => tOp_of (binD_calm op) (fun _ _ _ _ h => h) h
end
end PL
end
section
set_option Elab.async false
set_option linter.all false
set_option maxRecDepth 100000
set_option maxHeartbeats 4000000
set_option autoImplicit false
/-! Part e: == of data that hold no dict. -/
namespace PL
open PySem L2

mutual
theorem eqv_same : ∀ p : PyData, p.hasDict = false → PyData.eqv p p = true
  | .none, _ => rfl
  | .bool b, _ => by simp [PyData.eqv]
  | .int i, _ => by simp [PyData.eqv]
  | .str x, _ => by simp [PyData.eqv]
  | .list xs, h => by
    rw [PyData.eqv]
    exact eqvAll_same xs (by simpa only [PyData.hasDict] using h)
  | .tuple xs, h => by
    rw [PyData.eqv]
    exact eqvAll_same xs (by simpa only [PyData.hasDict] using h)
  | .dict _, h => by simp [PyData.hasDict] at h
theorem eqvAll_same : ∀ ps : List PyData, PyData.hasDictAll ps = false → PyData.eqvAll ps ps = true
  | [], _ => rfl
  | p :: ps, h => by
    simp only [PyData.hasDictAll, Bool.or_eq_false_iff] at h
    rw [PyData.eqvAll, eqv_same p h.1, eqvAll_same ps h.2]; rfl
end
theorem roomZ {A : Around} {n m : Nat} (hu : A.units + min (n + 1) (m + 1) < cLine) : A.units < cLine ∧ A.in1.units + min n m < cLine := by
  have e : A.in1.units = A.units + 1 := rfl
  constructor <;> omega
section
variable {s : Shared}
mutual
theorem eqAt_py : ∀ (p q : PyData) (A : Around) (a b : Value) (as bs : List Addr), Reads s.heap a p as → Reads s.heap b q bs → p.hasDict = false → q.hasDict = false → A.units + min p.depth q.depth < cLine → SeqAt.EqAt A s a b (PyData.eqv p q)
  | .none, q, A, _, _, _, _, ra, rb, _, hb, hu => by
    cases ra
    cases rb with
    | none => exact SeqAt.EqAt.same _
    | bool y => exact SeqAt.EqAt.none_bool y
    | int y u => exact SeqAt.EqAt.none_int y u
    | str y u => exact SeqAt.EqAt.none_str y u
    | list k1 k2 k3 k4 => exact SeqAt.EqAt.none_list ⟨_, k1, k2, _, k3⟩ (SeqAt.room_here hu)
    | tuple k1 k2 k3 k4 => exact SeqAt.EqAt.none_tuple ⟨_, k1, k2, _, k3⟩ (SeqAt.room_here hu)
    | dict => exact absurd hb (by simp [PyData.hasDict])
  | .bool x, q, A, _, _, _, _, ra, rb, _, hb, hu => by
    cases ra
    cases rb with
    | none => exact SeqAt.EqAt.bool_none x
    | bool y => exact SeqAt.EqAt.bool_bool x y
    | int y u => exact SeqAt.EqAt.bool_int x y u
    | str y u => exact SeqAt.EqAt.bool_str x y u
    | list k1 k2 k3 k4 => exact SeqAt.EqAt.bool_list x ⟨_, k1, k2, _, k3⟩ (SeqAt.room_here hu)
    | tuple k1 k2 k3 k4 => exact SeqAt.EqAt.bool_tuple x ⟨_, k1, k2, _, k3⟩ (SeqAt.room_here hu)
    | dict => exact absurd hb (by simp [PyData.hasDict])
  | .int x, q, A, _, _, _, _, ra, rb, _, hb, hu => by
    cases ra with
    | int _ t =>
      cases rb with
      | none => exact SeqAt.EqAt.int_none x t
      | bool y => exact SeqAt.EqAt.int_bool x t y
      | int y u => exact SeqAt.EqAt.int_int x t y u
      | str y u => exact SeqAt.EqAt.int_str x t y u
      | list k1 k2 k3 k4 => exact SeqAt.EqAt.int_list x t ⟨_, k1, k2, _, k3⟩ (SeqAt.room_here hu)
      | tuple k1 k2 k3 k4 => exact SeqAt.EqAt.int_tuple x t ⟨_, k1, k2, _, k3⟩ (SeqAt.room_here hu)
      | dict => exact absurd hb (by simp [PyData.hasDict])
  | .str x, q, A, _, _, _, _, ra, rb, _, hb, hu => by
    cases ra with
    | str _ t =>
      cases rb with
      | none => exact SeqAt.EqAt.str_none x t
      | bool y => exact SeqAt.EqAt.str_bool x t y
      | int y u => exact SeqAt.EqAt.str_int x t y u
      | str y u => exact SeqAt.EqAt.str_str x t y u
      | list k1 k2 k3 k4 => exact SeqAt.EqAt.str_list x t ⟨_, k1, k2, _, k3⟩ (SeqAt.room_here hu)
      | tuple k1 k2 k3 k4 => exact SeqAt.EqAt.str_tuple x t ⟨_, k1, k2, _, k3⟩ (SeqAt.room_here hu)
      | dict => exact absurd hb (by simp [PyData.hasDict])
  | .list xs, q, A, _, _, _, _, ra, rb, ha, hb, hu => by
    cases ra with
    | @list l o vs n _ as₁ h1 h2 h3 h4 =>
      have hl : s.heap.IsList l vs := ⟨_, h1, h2, _, h3⟩
      cases rb with
      | none => exact SeqAt.EqAt.list_none hl (SeqAt.room_here hu)
      | bool y => exact SeqAt.EqAt.list_bool y hl (SeqAt.room_here hu)
      | int y u => exact SeqAt.EqAt.list_int y u hl (SeqAt.room_here hu)
      | str y u => exact SeqAt.EqAt.list_str y u hl (SeqAt.room_here hu)
      | tuple k1 k2 k3 k4 => exact SeqAt.EqAt.list_tuple hl ⟨_, k1, k2, _, k3⟩ (SeqAt.room_here hu)
      | dict => exact absurd hb (by simp [PyData.hasDict])
      | @list l' o' vs' n' ys bs₁ k1 k2 k3 k4 =>
        have hl' : s.heap.IsList l' vs' := ⟨_, k1, k2, _, k3⟩
        have ha' : PyData.hasDictAll xs = false := by simpa only [PyData.hasDict] using ha
        have hb' : PyData.hasDictAll ys = false := by simpa only [PyData.hasDict] using hb
        have n1 : vs.size = xs.length := by simpa using SeqAt.ReadsAll.length _ _ _ h4
        have n2 : vs'.size = ys.length := by simpa using SeqAt.ReadsAll.length _ _ _ k4
        obtain ⟨u1, u2⟩ := roomZ (n := PyData.depthAll xs) (m := PyData.depthAll ys) (by simpa only [PyData.depth] using hu)
        show SeqAt.EqAt A s (.ref l) (.ref l') (PyData.eqvAll xs ys)
        by_cases hll : l = l'
        · subst hll
          obtain ⟨e, _⟩ := PyProof.Rows.reads_det (fun _ _ e _ => e) (Reads.list h1 h2 h3 h4) (Reads.list k1 k2 k3 k4)
          injection e with e
          subst e
          rw [eqvAll_same _ ha']
          exact SeqAt.EqAt.same _
        · by_cases hsz : vs.size = vs'.size
          · rw [← SeqAt.eqvAll_same_length (show xs.length = ys.length by omega), ← n1]
            refine SeqAt.EqAt.of_refs hll (SeqAt.RcAt.lists hl hl' hsz u1 fun j j1 j2 => ?_)
            have z := eqAt_pyAll xs ys A.in1 vs.toList vs'.toList _ _ h4 k4 ha' hb' u2 j (by simpa using j1) (by simpa using j2)
            simpa using z
          · rw [SeqAt.eqvAll_other_length (show xs.length ≠ ys.length by omega)]
            exact SeqAt.EqAt.of_refs hll (SeqAt.RcAt.lists_lengths hl hl' (by simpa using hsz) u1)
  | .tuple xs, q, A, _, _, _, _, ra, rb, ha, hb, hu => by
    cases ra with
    | @tuple l o vs n _ as₁ h1 h2 h3 h4 =>
      have hl : s.heap.IsTuple l vs := ⟨_, h1, h2, _, h3⟩
      cases rb with
      | none => exact SeqAt.EqAt.tuple_none hl (SeqAt.room_here hu)
      | bool y => exact SeqAt.EqAt.tuple_bool y hl (SeqAt.room_here hu)
      | int y u => exact SeqAt.EqAt.tuple_int y u hl (SeqAt.room_here hu)
      | str y u => exact SeqAt.EqAt.tuple_str y u hl (SeqAt.room_here hu)
      | list k1 k2 k3 k4 => exact SeqAt.EqAt.tuple_list hl ⟨_, k1, k2, _, k3⟩ (SeqAt.room_here hu)
      | dict => exact absurd hb (by simp [PyData.hasDict])
      | @tuple l' o' vs' n' ys bs₁ k1 k2 k3 k4 =>
        have hl' : s.heap.IsTuple l' vs' := ⟨_, k1, k2, _, k3⟩
        have ha' : PyData.hasDictAll xs = false := by simpa only [PyData.hasDict] using ha
        have hb' : PyData.hasDictAll ys = false := by simpa only [PyData.hasDict] using hb
        have n1 : vs.size = xs.length := by simpa using SeqAt.ReadsAll.length _ _ _ h4
        have n2 : vs'.size = ys.length := by simpa using SeqAt.ReadsAll.length _ _ _ k4
        obtain ⟨u1, u2⟩ := roomZ (n := PyData.depthAll xs) (m := PyData.depthAll ys) (by simpa only [PyData.depth] using hu)
        show SeqAt.EqAt A s (.ref l) (.ref l') (PyData.eqvAll xs ys)
        by_cases hll : l = l'
        · subst hll
          obtain ⟨e, _⟩ := PyProof.Rows.reads_det (fun _ _ e _ => e) (Reads.tuple h1 h2 h3 h4) (Reads.tuple k1 k2 k3 k4)
          injection e with e
          subst e
          rw [eqvAll_same _ ha']
          exact SeqAt.EqAt.same _
        · rw [← SeqAt.eqvAll_eq xs ys, ← n1, ← n2]
          refine SeqAt.EqAt.of_refs hll (SeqAt.RcAt.tuples hl hl' u1 fun j j1 j2 => ?_)
          have z := eqAt_pyAll xs ys A.in1 vs.toList vs'.toList _ _ h4 k4 ha' hb' u2 j (by simpa using j1) (by simpa using j2)
          simpa using z
  | .dict _, _, _, _, _, _, _, _, _, ha, _, _ => by simp [PyData.hasDict] at ha
theorem eqAt_pyAll : ∀ (xs ys : List PyData) (A : Around) (vs ws : List Value) (as bs : List Addr), ReadsAll s.heap vs xs as → ReadsAll s.heap ws ys bs → PyData.hasDictAll xs = false → PyData.hasDictAll ys = false →
    A.units + min (PyData.depthAll xs) (PyData.depthAll ys) < cLine → ∀ j (h1 : j < vs.length) (h2 : j < ws.length), SeqAt.EqAt A s vs[j] ws[j] (SeqAt.pairEq xs ys j)
  | [], _, _, _, _, _, _, ra, _, _, _, _, j, h1, _ => by cases ra; exact absurd h1 (Nat.not_lt_zero _)
  | _ :: _, [], _, _, _, _, _, _, rb, _, _, _, j, _, h2 => by cases rb; exact absurd h2 (Nat.not_lt_zero _)
  | x :: xs, y :: ys, A, _, _, _, _, ra, rb, ha, hb, hu, j, h1, h2 => by
    simp only [PyData.hasDictAll, Bool.or_eq_false_iff] at ha hb
    simp only [PyData.depthAll] at hu
    cases ra with
    | cons r rs =>
      cases rb with
      | cons r' rs' =>
        cases j with
        | zero => exact eqAt_py x y A _ _ _ _ r r' ha.1 hb.1 (by omega)
        | succ j => exact eqAt_pyAll xs ys A _ _ _ _ rs rs' ha.2 hb.2 (by omega) j (Nat.lt_of_succ_lt_succ h1) (Nat.lt_of_succ_lt_succ h2)
end
theorem rcAt_py {p q : PyData} {A : Around} {a b : Value} {as bs : List Addr} (ra : Reads s.heap a p as) (rb : Reads s.heap b q bs) (ha : p.hasDict = false) (hb : q.hasDict = false) (hu : A.units + min p.depth q.depth < cLine) : SeqAt.RcAt A s a b (PyData.eqv p q) := by
  cases ra with
  | none =>
    cases rb with
    | none => exact SeqAt.RcAt.none_none
    | bool y => exact SeqAt.RcAt.none_bool y
    | int y u => exact SeqAt.RcAt.none_int y u
    | str y u => exact SeqAt.RcAt.none_str y u
    | list k1 k2 k3 k4 => exact SeqAt.RcAt.none_list ⟨_, k1, k2, _, k3⟩ (SeqAt.room_here hu)
    | tuple k1 k2 k3 k4 => exact SeqAt.RcAt.none_tuple ⟨_, k1, k2, _, k3⟩ (SeqAt.room_here hu)
    | dict => exact absurd hb (by simp [PyData.hasDict])
  | bool x =>
    cases rb with
    | none => exact SeqAt.RcAt.bool_none x
    | bool y => exact SeqAt.RcAt.bool_bool x y
    | int y u => exact SeqAt.RcAt.bool_int x y u
    | str y u => exact SeqAt.RcAt.bool_str x y u
    | list k1 k2 k3 k4 => exact SeqAt.RcAt.bool_list x ⟨_, k1, k2, _, k3⟩ (SeqAt.room_here hu)
    | tuple k1 k2 k3 k4 => exact SeqAt.RcAt.bool_tuple x ⟨_, k1, k2, _, k3⟩ (SeqAt.room_here hu)
    | dict => exact absurd hb (by simp [PyData.hasDict])
  | int x t =>
    cases rb with
    | none => exact SeqAt.RcAt.int_none x t
    | bool y => exact SeqAt.RcAt.int_bool x t y
    | int y u => exact SeqAt.RcAt.int_int x t y u
    | str y u => exact SeqAt.RcAt.int_str x t y u
    | list k1 k2 k3 k4 => exact SeqAt.RcAt.int_list x t ⟨_, k1, k2, _, k3⟩ (SeqAt.room_here hu)
    | tuple k1 k2 k3 k4 => exact SeqAt.RcAt.int_tuple x t ⟨_, k1, k2, _, k3⟩ (SeqAt.room_here hu)
    | dict => exact absurd hb (by simp [PyData.hasDict])
  | str x t =>
    cases rb with
    | none => exact SeqAt.RcAt.str_none x t
    | bool y => exact SeqAt.RcAt.str_bool x t y
    | int y u => exact SeqAt.RcAt.str_int x t y u
    | str y u => exact SeqAt.RcAt.str_str x t y u
    | list k1 k2 k3 k4 => exact SeqAt.RcAt.str_list x t ⟨_, k1, k2, _, k3⟩ (SeqAt.room_here hu)
    | tuple k1 k2 k3 k4 => exact SeqAt.RcAt.str_tuple x t ⟨_, k1, k2, _, k3⟩ (SeqAt.room_here hu)
    | dict => exact absurd hb (by simp [PyData.hasDict])
  | @list l o vs n xs as₁ h1 h2 h3 h4 =>
    have hl : s.heap.IsList l vs := ⟨_, h1, h2, _, h3⟩
    cases rb with
    | none => exact SeqAt.RcAt.list_none hl (SeqAt.room_here hu)
    | bool y => exact SeqAt.RcAt.list_bool y hl (SeqAt.room_here hu)
    | int y u => exact SeqAt.RcAt.list_int y u hl (SeqAt.room_here hu)
    | str y u => exact SeqAt.RcAt.list_str y u hl (SeqAt.room_here hu)
    | tuple k1 k2 k3 k4 => exact SeqAt.RcAt.list_tuple hl ⟨_, k1, k2, _, k3⟩ (SeqAt.room_here hu)
    | dict => exact absurd hb (by simp [PyData.hasDict])
    | @list l' o' vs' n' ys bs₁ k1 k2 k3 k4 =>
      have hl' : s.heap.IsList l' vs' := ⟨_, k1, k2, _, k3⟩
      have ha' : PyData.hasDictAll xs = false := by simpa only [PyData.hasDict] using ha
      have hb' : PyData.hasDictAll ys = false := by simpa only [PyData.hasDict] using hb
      have n1 : vs.size = xs.length := by simpa using SeqAt.ReadsAll.length _ _ _ h4
      have n2 : vs'.size = ys.length := by simpa using SeqAt.ReadsAll.length _ _ _ k4
      obtain ⟨u1, u2⟩ := roomZ (n := PyData.depthAll xs) (m := PyData.depthAll ys) (by simpa only [PyData.depth] using hu)
      have he : ∀ j (j1 : j < vs.size) (j2 : j < vs'.size), SeqAt.EqAt A.in1 s vs[j] vs'[j] (SeqAt.pairEq xs ys j) := fun j j1 j2 => by
        have z := eqAt_pyAll xs ys A.in1 vs.toList vs'.toList _ _ h4 k4 ha' hb' u2 j (by simpa using j1) (by simpa using j2)
        simpa using z
      show SeqAt.RcAt A s (.ref l) (.ref l') (PyData.eqvAll xs ys)
      by_cases hsz : vs.size = vs'.size
      · rw [← SeqAt.eqvAll_same_length (show xs.length = ys.length by omega), ← n1]
        exact SeqAt.RcAt.lists hl hl' hsz u1 he
      · rw [SeqAt.eqvAll_other_length (show xs.length ≠ ys.length by omega)]
        exact SeqAt.RcAt.lists_lengths hl hl' (by simpa using hsz) u1
  | @tuple l o vs n xs as₁ h1 h2 h3 h4 =>
    have hl : s.heap.IsTuple l vs := ⟨_, h1, h2, _, h3⟩
    cases rb with
    | none => exact SeqAt.RcAt.tuple_none hl (SeqAt.room_here hu)
    | bool y => exact SeqAt.RcAt.tuple_bool y hl (SeqAt.room_here hu)
    | int y u => exact SeqAt.RcAt.tuple_int y u hl (SeqAt.room_here hu)
    | str y u => exact SeqAt.RcAt.tuple_str y u hl (SeqAt.room_here hu)
    | list k1 k2 k3 k4 => exact SeqAt.RcAt.tuple_list hl ⟨_, k1, k2, _, k3⟩ (SeqAt.room_here hu)
    | dict => exact absurd hb (by simp [PyData.hasDict])
    | @tuple l' o' vs' n' ys bs₁ k1 k2 k3 k4 =>
      have hl' : s.heap.IsTuple l' vs' := ⟨_, k1, k2, _, k3⟩
      have ha' : PyData.hasDictAll xs = false := by simpa only [PyData.hasDict] using ha
      have hb' : PyData.hasDictAll ys = false := by simpa only [PyData.hasDict] using hb
      have n1 : vs.size = xs.length := by simpa using SeqAt.ReadsAll.length _ _ _ h4
      have n2 : vs'.size = ys.length := by simpa using SeqAt.ReadsAll.length _ _ _ k4
      obtain ⟨u1, u2⟩ := roomZ (n := PyData.depthAll xs) (m := PyData.depthAll ys) (by simpa only [PyData.depth] using hu)
      have he : ∀ j (j1 : j < vs.size) (j2 : j < vs'.size), SeqAt.EqAt A.in1 s vs[j] vs'[j] (SeqAt.pairEq xs ys j) := fun j j1 j2 => by
        have z := eqAt_pyAll xs ys A.in1 vs.toList vs'.toList _ _ h4 k4 ha' hb' u2 j (by simpa using j1) (by simpa using j2)
        simpa using z
      show SeqAt.RcAt A s (.ref l) (.ref l') (PyData.eqvAll xs ys)
      rw [← SeqAt.eqvAll_eq xs ys, ← n1, ← n2]
      exact SeqAt.RcAt.tuples hl hl' u1 he
  | dict => exact absurd ha (by simp [PyData.hasDict])
theorem rcNe_py {p q : PyData} {A : Around} {a b : Value} {as bs : List Addr} (ra : Reads s.heap a p as) (rb : Reads s.heap b q bs) (ha : p.hasDict = false) (hb : q.hasDict = false) (hu : A.units + min p.depth q.depth < cLine) : SeqAt.RcNeAt A s a b (!PyData.eqv p q) := by
  cases ra with
  | none =>
    cases rb with
    | none => exact SeqAt.RcNeAt.none_none
    | bool y => exact SeqAt.RcNeAt.none_bool y
    | int y u => exact SeqAt.RcNeAt.none_int y u
    | str y u => exact SeqAt.RcNeAt.none_str y u
    | list k1 k2 k3 k4 => exact SeqAt.RcNeAt.none_list ⟨_, k1, k2, _, k3⟩ (SeqAt.room_here hu)
    | tuple k1 k2 k3 k4 => exact SeqAt.RcNeAt.none_tuple ⟨_, k1, k2, _, k3⟩ (SeqAt.room_here hu)
    | dict => exact absurd hb (by simp [PyData.hasDict])
  | bool x =>
    cases rb with
    | none => exact SeqAt.RcNeAt.bool_none x
    | bool y => exact SeqAt.RcNeAt.bool_bool x y
    | int y u => exact SeqAt.RcNeAt.bool_int x y u
    | str y u => exact SeqAt.RcNeAt.bool_str x y u
    | list k1 k2 k3 k4 => exact SeqAt.RcNeAt.bool_list x ⟨_, k1, k2, _, k3⟩ (SeqAt.room_here hu)
    | tuple k1 k2 k3 k4 => exact SeqAt.RcNeAt.bool_tuple x ⟨_, k1, k2, _, k3⟩ (SeqAt.room_here hu)
    | dict => exact absurd hb (by simp [PyData.hasDict])
  | int x t =>
    cases rb with
    | none => exact SeqAt.RcNeAt.int_none x t
    | bool y => exact SeqAt.RcNeAt.int_bool x t y
    | int y u => exact SeqAt.RcNeAt.int_int x t y u
    | str y u => exact SeqAt.RcNeAt.int_str x t y u
    | list k1 k2 k3 k4 => exact SeqAt.RcNeAt.int_list x t ⟨_, k1, k2, _, k3⟩ (SeqAt.room_here hu)
    | tuple k1 k2 k3 k4 => exact SeqAt.RcNeAt.int_tuple x t ⟨_, k1, k2, _, k3⟩ (SeqAt.room_here hu)
    | dict => exact absurd hb (by simp [PyData.hasDict])
  | str x t =>
    cases rb with
    | none => exact SeqAt.RcNeAt.str_none x t
    | bool y => exact SeqAt.RcNeAt.str_bool x t y
    | int y u => exact SeqAt.RcNeAt.str_int x t y u
    | str y u => exact SeqAt.RcNeAt.str_str x t y u
    | list k1 k2 k3 k4 => exact SeqAt.RcNeAt.str_list x t ⟨_, k1, k2, _, k3⟩ (SeqAt.room_here hu)
    | tuple k1 k2 k3 k4 => exact SeqAt.RcNeAt.str_tuple x t ⟨_, k1, k2, _, k3⟩ (SeqAt.room_here hu)
    | dict => exact absurd hb (by simp [PyData.hasDict])
  | @list l o vs n xs as₁ h1 h2 h3 h4 =>
    have hl : s.heap.IsList l vs := ⟨_, h1, h2, _, h3⟩
    cases rb with
    | none => exact SeqAt.RcNeAt.list_none hl (SeqAt.room_here hu)
    | bool y => exact SeqAt.RcNeAt.list_bool y hl (SeqAt.room_here hu)
    | int y u => exact SeqAt.RcNeAt.list_int y u hl (SeqAt.room_here hu)
    | str y u => exact SeqAt.RcNeAt.list_str y u hl (SeqAt.room_here hu)
    | tuple k1 k2 k3 k4 => exact SeqAt.RcNeAt.list_tuple hl ⟨_, k1, k2, _, k3⟩ (SeqAt.room_here hu)
    | dict => exact absurd hb (by simp [PyData.hasDict])
    | @list l' o' vs' n' ys bs₁ k1 k2 k3 k4 =>
      have hl' : s.heap.IsList l' vs' := ⟨_, k1, k2, _, k3⟩
      have ha' : PyData.hasDictAll xs = false := by simpa only [PyData.hasDict] using ha
      have hb' : PyData.hasDictAll ys = false := by simpa only [PyData.hasDict] using hb
      have n1 : vs.size = xs.length := by simpa using SeqAt.ReadsAll.length _ _ _ h4
      have n2 : vs'.size = ys.length := by simpa using SeqAt.ReadsAll.length _ _ _ k4
      obtain ⟨u1, u2⟩ := roomZ (n := PyData.depthAll xs) (m := PyData.depthAll ys) (by simpa only [PyData.depth] using hu)
      have he : ∀ j (j1 : j < vs.size) (j2 : j < vs'.size), SeqAt.EqAt A.in1 s vs[j] vs'[j] (SeqAt.pairEq xs ys j) := fun j j1 j2 => by
        have z := eqAt_pyAll xs ys A.in1 vs.toList vs'.toList _ _ h4 k4 ha' hb' u2 j (by simpa using j1) (by simpa using j2)
        simpa using z
      show SeqAt.RcNeAt A s (.ref l) (.ref l') (!PyData.eqvAll xs ys)
      by_cases hsz : vs.size = vs'.size
      · rw [← SeqAt.eqvAll_same_length (show xs.length = ys.length by omega), ← n1]
        exact SeqAt.RcNeAt.lists hl hl' hsz u1 he
      · rw [SeqAt.eqvAll_other_length (show xs.length ≠ ys.length by omega)]
        exact SeqAt.RcNeAt.lists_lengths hl hl' (by simpa using hsz) u1
  | @tuple l o vs n xs as₁ h1 h2 h3 h4 =>
    have hl : s.heap.IsTuple l vs := ⟨_, h1, h2, _, h3⟩
    cases rb with
    | none => exact SeqAt.RcNeAt.tuple_none hl (SeqAt.room_here hu)
    | bool y => exact SeqAt.RcNeAt.tuple_bool y hl (SeqAt.room_here hu)
    | int y u => exact SeqAt.RcNeAt.tuple_int y u hl (SeqAt.room_here hu)
    | str y u => exact SeqAt.RcNeAt.tuple_str y u hl (SeqAt.room_here hu)
    | list k1 k2 k3 k4 => exact SeqAt.RcNeAt.tuple_list hl ⟨_, k1, k2, _, k3⟩ (SeqAt.room_here hu)
    | dict => exact absurd hb (by simp [PyData.hasDict])
    | @tuple l' o' vs' n' ys bs₁ k1 k2 k3 k4 =>
      have hl' : s.heap.IsTuple l' vs' := ⟨_, k1, k2, _, k3⟩
      have ha' : PyData.hasDictAll xs = false := by simpa only [PyData.hasDict] using ha
      have hb' : PyData.hasDictAll ys = false := by simpa only [PyData.hasDict] using hb
      have n1 : vs.size = xs.length := by simpa using SeqAt.ReadsAll.length _ _ _ h4
      have n2 : vs'.size = ys.length := by simpa using SeqAt.ReadsAll.length _ _ _ k4
      obtain ⟨u1, u2⟩ := roomZ (n := PyData.depthAll xs) (m := PyData.depthAll ys) (by simpa only [PyData.depth] using hu)
      have he : ∀ j (j1 : j < vs.size) (j2 : j < vs'.size), SeqAt.EqAt A.in1 s vs[j] vs'[j] (SeqAt.pairEq xs ys j) := fun j j1 j2 => by
        have z := eqAt_pyAll xs ys A.in1 vs.toList vs'.toList _ _ h4 k4 ha' hb' u2 j (by simpa using j1) (by simpa using j2)
        simpa using z
      show SeqAt.RcNeAt A s (.ref l) (.ref l') (!PyData.eqvAll xs ys)
      rw [← SeqAt.eqvAll_eq xs ys, ← n1, ← n2]
      exact SeqAt.RcNeAt.tuples hl hl' u1 he
  | dict => exact absurd ha (by simp [PyData.hasDict])
end
end PL
end
section
set_option Elab.async false
set_option linter.all false
set_option maxRecDepth 100000
set_option maxHeartbeats 4000000
set_option autoImplicit false
/-! Part f: comparisons, tests, and, or, not. -/
namespace PL
open PySem L2

/-- data that hold no dict -/
def toPyN (S : Sto) : Nat → D → Option PyData
  | _, .non => some .none
  | _, .bl b => some (.bool b)
  | _, .int i => some (.int i)
  | _, .str x => some (.str x)
  | n + 1, .tup xs => (optAll (toPyN S n) xs).map .tuple
  | n + 1, .lst xs => (optAll (toPyN S n) xs).map .list
  | n + 1, .scr xs => (optAll (toPyN S n) xs).map .list
  | n + 1, .ref l => match S[l]? with
    | some (.lst xs) => (optAll (toPyN S n) xs).map .list
    | _ => none
  | _, _ => none
theorem optAll_imp {α β : Type} {f g : α → Option β} (h : ∀ a b, f a = some b → g a = some b) : ∀ {xs : List α} {ys : List β}, optAll f xs = some ys → optAll g xs = some ys
  | [], ys, e => by cases e; rfl
  | x :: xs, ys, e => by
    unfold optAll at e ⊢
    split at e
    · rename_i a b h1 h2
      cases e
      rw [h _ _ h1, optAll_imp h h2]
    · cases e
theorem toPyN_imp {S : Sto} : ∀ (n : Nat) (d : D) (p : PyData), toPyN S n d = some p → toPy S n d = some p
  | n, .non, p, h => by cases n <;> (simp [toPyN] at h; simp [toPy, h])
  | n, .bl b, p, h => by cases n <;> (simp [toPyN] at h; simp [toPy, h])
  | n, .int b, p, h => by cases n <;> (simp [toPyN] at h; simp [toPy, h])
  | n, .str b, p, h => by cases n <;> (simp [toPyN] at h; simp [toPy, h])
  | 0, .tup _, _, h => by simp [toPyN] at h
  | 0, .lst _, _, h => by simp [toPyN] at h
  | 0, .scr _, _, h => by simp [toPyN] at h
  | 0, .ref _, _, h => by simp [toPyN] at h
  | n + 1, .tup xs, p, h => by
    simp only [toPyN, Option.map_eq_some_iff] at h
    obtain ⟨ps, h, rfl⟩ := h
    simp only [toPy, optAll_imp (toPyN_imp n) h, Option.map_some]
  | n + 1, .lst xs, p, h => by
    simp only [toPyN, Option.map_eq_some_iff] at h
    obtain ⟨ps, h, rfl⟩ := h
    simp only [toPy, optAll_imp (toPyN_imp n) h, Option.map_some]
  | n + 1, .scr xs, p, h => by
    simp only [toPyN, Option.map_eq_some_iff] at h
    obtain ⟨ps, h, rfl⟩ := h
    simp only [toPy, optAll_imp (toPyN_imp n) h, Option.map_some]
  | n + 1, .ref l, p, h => by
    simp only [toPyN] at h
    split at h
    · rename_i xs hl
      simp only [Option.map_eq_some_iff] at h
      obtain ⟨ps, h, rfl⟩ := h
      simp only [toPy, hl, optAll_imp (toPyN_imp n) h, Option.map_some]
    · cases h
  | n, .dct _ _, _, h => by cases n <;> simp [toPyN] at h
  | n, .ins _ _, _, h => by cases n <;> simp [toPyN] at h
  | n, .glo _, _, h => by cases n <;> simp [toPyN] at h
  | n, .ty _, _, h => by cases n <;> simp [toPyN] at h
theorem hasDictAll_of {S : Sto} {n : Nat} (ih : ∀ d p, toPyN S n d = some p → p.hasDict = false) : ∀ {ds : List D} {ps : List PyData}, optAll (toPyN S n) ds = some ps → PyData.hasDictAll ps = false
  | [], _, h => by cases h; rfl
  | d :: ds, ps, h => by
    unfold optAll at h
    split at h
    · rename_i x xs h1 h2
      cases h
      simp only [PyData.hasDictAll, ih _ _ h1, hasDictAll_of ih h2, Bool.or_self]
    · cases h
theorem toPyN_no {S : Sto} : ∀ (n : Nat) (d : D) (p : PyData), toPyN S n d = some p → p.hasDict = false
  | n, .non, p, h => by cases n <;> (simp [toPyN] at h; subst h; rfl)
  | n, .bl b, p, h => by cases n <;> (simp [toPyN] at h; subst h; rfl)
  | n, .int b, p, h => by cases n <;> (simp [toPyN] at h; subst h; rfl)
  | n, .str b, p, h => by cases n <;> (simp [toPyN] at h; subst h; rfl)
  | 0, .tup _, _, h => by simp [toPyN] at h
  | 0, .lst _, _, h => by simp [toPyN] at h
  | 0, .scr _, _, h => by simp [toPyN] at h
  | 0, .ref _, _, h => by simp [toPyN] at h
  | n + 1, .tup xs, p, h => by
    simp only [toPyN, Option.map_eq_some_iff] at h
    obtain ⟨ps, h, rfl⟩ := h
    simp only [PyData.hasDict, hasDictAll_of (toPyN_no n) h]
  | n + 1, .lst xs, p, h => by
    simp only [toPyN, Option.map_eq_some_iff] at h
    obtain ⟨ps, h, rfl⟩ := h
    simp only [PyData.hasDict, hasDictAll_of (toPyN_no n) h]
  | n + 1, .scr xs, p, h => by
    simp only [toPyN, Option.map_eq_some_iff] at h
    obtain ⟨ps, h, rfl⟩ := h
    simp only [PyData.hasDict, hasDictAll_of (toPyN_no n) h]
  | n + 1, .ref l, p, h => by
    simp only [toPyN] at h
    split at h
    · simp only [Option.map_eq_some_iff] at h
      obtain ⟨ps, h, rfl⟩ := h
      simp only [PyData.hasDict, hasDictAll_of (toPyN_no n) h]
    · cases h
  | n, .dct _ _, _, h => by cases n <;> simp [toPyN] at h
  | n, .ins _ _, _, h => by cases n <;> simp [toPyN] at h
  | n, .glo _, _, h => by cases n <;> simp [toPyN] at h
  | n, .ty _, _, h => by cases n <;> simp [toPyN] at h
abbrev py (S : Sto) (d : D) : Option PyData := toPyN S 60 d
abbrev pys (S : Sto) (ds : List D) : Option (List PyData) := optAll (toPyN S 59) ds

def eqS (S : Sto) (x y : D) : Option Bool := match py S x, py S y with
  | some p, some q => some (PyData.eqv p q)
  | _, _ => none
def dctOf (S : Sto) : D → Option (Bool × List (D × D))
  | .dct t kvs => some (t, kvs)
  | .ref l => match S[l]? with
    | some (.dct t kvs) => some (t, kvs)
    | _ => none
  | _ => none
def lookD (kvs : List (D × D)) (κ : Key) : Option D := (kvs.find? fun kv => decide (keyOf kv.1 = some κ)).map (·.2)
def lookT (kvs : List (D × D)) (κ : List Key) : Option D := (kvs.find? fun kv => decide (tkeyOf kv.1 = some κ)).map (·.2)
/-- what a dict has for a key: none, where it cannot be told -/
def dgetS (S : Sto) (x k : D) : Option (Option D) := match dctOf S x with
  | some (false, kvs) => (keyOf k).map fun κ => lookD kvs κ
  | some (true, kvs) => (tkeyOf k).map fun κ => lookT kvs κ
  | none => none
def inStr (a b : Str) : Bool := match a.cps.toList with
  | [c] => decide (c ∈ b.cps.toList)
  | _ => !(Builtin.Str.occurrences b a 0 b.length 1).isEmpty
def inS (S : Sto) (x y : D) : Option Bool := match x, y with
  | .str a, .str b => some (inStr a b)
  | x, y => match seqOf S y with
    | some ys => match py S x, pys S ys with
      | some p, some ps => some (ps.any fun q => PyData.eqv q p)
      | _, _ => none
    | none => (dgetS S y x).map (·.isSome)
def ltS (S : Sto) (x y : D) : Option Bool := match x, y with
  | .int i, .int j => some (decide (i < j))
  | .str a, .str b => some (decide (a.cps.toList < b.cps.toList))
  | x, y => match py S x, py S y with
    | some (.tuple ps), some (.tuple qs) => if PySem.W.alikeAll ps qs = true then some (PySem.W.dataLt (.tuple ps) (.tuple qs)) else none
    | some (.list ps), some (.list qs) => if PySem.W.alikeAll ps qs = true then some (PySem.W.dataLt (.list ps) (.list qs)) else none
    | _, _ => none
def leS (x y : D) : Option Bool := match x, y with
  | .int i, .int j => some (decide (i ≤ j))
  | .str a, .str b => some (!decide (b.cps.toList < a.cps.toList))
  | _, _ => none
def nonD : D → Bool
  | .non => true
  | _ => false
def isS (x y : D) : Option Bool := match x, y with
  | x, .non => some (nonD x)
  | .bl a, .bl b => some (decide (a = b))
  | _, _ => none
def cmpS : CmpOp → Sto → D → D → Option Bool
  | .Eq, S, x, y => eqS S x y
  | .NotEq, S, x, y => (eqS S x y).map (!·)
  | .Lt, S, x, y => ltS S x y
  | .Gt, S, x, y => match x, y with
    | .int i, .int j => some (decide (j < i))
    | .str a, .str b => some (decide (b.cps.toList < a.cps.toList))
    | _, _ => none
  | .LtE, _, x, y => leS x y
  | .GtE, _, x, y => leS y x
  | .In, S, x, y => inS S x y
  | .NotIn, S, x, y => (inS S x y).map (!·)
  | .Is, _, x, y => isS x y
  | .IsNot, _, x, y => (isS x y).map (!·)
def cmpR (op : CmpOp) (x y : D) (S : Sto) : Res Bool := match cmpS op S x y with
  | some b => .ok b S
  | none => .bad
def Res.val (r : Res Bool) : Res D := r.bind fun b S => .ok (.bl b) S
def cmpD (op : CmpOp) (x y : D) (S : Sto) : Res D := (cmpR op x y S).val

section
variable {X : Cx} {pins : List (Addr × Obj)} {σ : St} {H : Hp} {s : Shared} {ω : Om} {S : Sto}
theorem readOf_py {h : Heap} {v : Value} {p : PyData} {as : List Addr} (r : Reads h v p as) : SeqAt.readOf h v = p := by
  have hx : ∃ d as, Reads h v d as := ⟨p, as, r⟩
  unfold SeqAt.readOf
  rw [dif_pos hx]
  obtain ⟨as', r'⟩ := hx.choose_spec
  exact ((PyProof.Rows.reads_det (fun _ _ e _ => e) r r').1)
theorem readsAll_mem' {h : Heap} : ∀ {ps : List PyData} {vs : List Value} {as : List Addr}, ReadsAll h vs ps as → vs.map (SeqAt.readOf h) = ps ∧ ∀ y ∈ vs, ∃ p bs, p ∈ ps ∧ Reads h y p bs
  | [], _, _, r => by cases r; exact ⟨rfl, fun y hy => by cases hy⟩
  | p :: ps, _, _, r => by
    cases r with
    | cons r1 r2 =>
      obtain ⟨a, b⟩ := readsAll_mem' r2
      refine ⟨by rw [List.map_cons, readOf_py r1, a], fun y hy => ?_⟩
      rcases List.mem_cons.mp hy with rfl | hy
      · exact ⟨p, _, List.mem_cons_self, r1⟩
      · obtain ⟨q, cs, hq, rq⟩ := b y hy
        exact ⟨q, cs, List.mem_cons_of_mem _ hq, rq⟩
theorem mem_noDict : ∀ {ps : List PyData} {p : PyData}, p ∈ ps → PyData.hasDictAll ps = false → p.hasDict = false
  | q :: ps, p, hp, h => by
    simp only [PyData.hasDictAll, Bool.or_eq_false_iff] at h
    rcases List.mem_cons.mp hp with rfl | hp
    · exact h.1
    · exact mem_noDict hp h.2
/-- the items against x -/
theorem items_py {A : Around} {vs : Array Value} {ps : List PyData} {as bs : List Addr} {x : Value} {p : PyData} (rs : ReadsAll s.heap vs.toList ps as) (rx : Reads s.heap x p bs) (hs : PyData.hasDictAll ps = false) (hp : p.hasDict = false) (hd : p.depth ≤ 60) (hu : A.units + 64 < cLine) :
    (∀ y, y ∈ vs → SeqAt.EqAt A.in1 s y x (PyData.eqv (SeqAt.readOf s.heap y) p)) ∧ vs.any (fun y => PyData.eqv (SeqAt.readOf s.heap y) p) = ps.any fun q => PyData.eqv q p := by
  obtain ⟨a, b⟩ := readsAll_mem' rs
  refine ⟨fun y hy => ?_, ?_⟩
  · obtain ⟨q, cs, hq, rq⟩ := b y (by simpa using hy)
    rw [readOf_py rq]
    refine eqAt_py q p _ _ _ _ _ rq rx (mem_noDict hq hs) hp ?_
    have e : A.in1.units = A.units + 1 := rfl
    omega
  · rw [← a, List.any_map, ← Array.any_toList]
    rfl
theorem lookD_rep (κ : Key) : ∀ {kvs : List (D × D)} {ws : List (Key × V)}, RepK X.K X.mg ω H kvs ws → (lookD kvs κ).isSome = (valV ws κ).isSome ∧ ∀ d, lookD kvs κ = some d → ∃ v, valV ws κ = some v ∧ Rep X.K X.mg ω H d v
  | _, _, .nil => ⟨rfl, fun d h => by cases h⟩
  | _, _, @RepK.cons _ _ _ _ k d κ' v ds vs h1 h2 r => by
    obtain ⟨a, b⟩ := lookD_rep κ r
    by_cases e : κ' = κ
    · subst e
      have e1 : lookD ((k, d) :: ds) κ' = some d := by simp [lookD, List.find?_cons, h1]
      have e2 : valV ((κ', v) :: vs) κ' = some v := by simp [valV, List.find?_cons]
      rw [e1, e2]
      exact ⟨rfl, fun d' hd => by cases hd; exact ⟨v, rfl, h2⟩⟩
    · have e1 : lookD ((k, d) :: ds) κ = lookD ds κ := by simp [lookD, List.find?_cons, h1, e]
      have e2 : valV ((κ', v) :: vs) κ = valV vs κ := by simp [valV, List.find?_cons, e]
      rw [e1, e2]
      exact ⟨a, b⟩
theorem lookT_rep (κ : List Key) : ∀ {kvs : List (D × D)} {ws : List (List Key × V)}, RepT X.K X.mg ω H kvs ws → (lookT kvs κ).isSome = (valV ws κ).isSome ∧ ∀ d, lookT kvs κ = some d → ∃ v, valV ws κ = some v ∧ Rep X.K X.mg ω H d v
  | _, _, .nil => ⟨rfl, fun d h => by cases h⟩
  | _, _, @RepT.cons _ _ _ _ k d κ' v ds vs h1 h2 r => by
    obtain ⟨a, b⟩ := lookT_rep κ r
    by_cases e : κ' = κ
    · subst e
      have e1 : lookT ((k, d) :: ds) κ' = some d := by simp [lookT, List.find?_cons, h1]
      have e2 : valV ((κ', v) :: vs) κ' = some v := by simp [valV, List.find?_cons]
      rw [e1, e2]
      exact ⟨rfl, fun d' hd => by cases hd; exact ⟨v, rfl, h2⟩⟩
    · have e1 : lookT ((k, d) :: ds) κ = lookT ds κ := by simp [lookT, List.find?_cons, h1, e]
      have e2 : valV ((κ', v) :: vs) κ = valV vs κ := by simp [valV, List.find?_cons, e]
      rw [e1, e2]
      exact ⟨a, b⟩
theorem keysOf_reps : ∀ {ds : List D} {κ : List Key}, keysOf ds = some κ → ∀ {vs : List V}, Reps X.K X.mg ω H ds vs → vs = κ.map kV
  | [], κ, h, _, r => by cases r; simp [keysOf] at h; subst h; rfl
  | d :: ds, κ, h, _, .cons r rs => by
    simp only [keysOf] at h
    split at h
    · rename_i k ks h1 h2
      cases h
      rw [keysOf_reps h2 rs]
      have e := keyOf_rep (X := X) (ω := ω) (H := H) h1
      cases d <;> simp [keyOf] at h1
      · subst h1; cases r; rfl
      · subst h1; cases r; rfl
    · cases h
theorem dctOf_rep {d : D} {v : V} {t : Bool} {kvs : List (D × D)} (st : St0 X.K X.mg ω H S) (h : dctOf S d = some (t, kvs)) (r : Rep X.K X.mg ω H d v) :
    ∃ a, v = .ref a ∧ ((t = false ∧ ∃ ws, Rd H a (.dK ws) ∧ RepK X.K X.mg ω H kvs ws) ∨ (t = true ∧ ∃ ws, Rd H a (.dT ws) ∧ RepT X.K X.mg ω H kvs ws)) := by
  cases d <;> simp only [dctOf] at h <;> try cases h
  · cases r with
    | dct hq r => exact ⟨_, rfl, .inl ⟨rfl, _, hq.rd, r⟩⟩
    | dctT hq r => exact ⟨_, rfl, .inr ⟨rfl, _, hq.rd, r⟩⟩
  · split at h
    · rename_i l t ys hl
      cases h
      cases r with
      | ref hr =>
        obtain ⟨o, ho, r⟩ := st.obs _ _ _ hl hr
        cases r with
        | dct r => exact ⟨_, rfl, .inl ⟨rfl, _, .inl ho, r⟩⟩
        | dctT r => exact ⟨_, rfl, .inr ⟨rfl, _, .inl ho, r⟩⟩
    · cases h
theorem keyOf_is {k : D} {κ : Key} {y : V} (h : keyOf k = some κ) (r : Rep X.K X.mg ω H k y) : y = kV κ := by
  cases k <;> simp [keyOf] at h
  · subst h; cases r; rfl
  · subst h; cases r; rfl
theorem tkeyOf_is {k : D} {κ : List Key} {y : V} (h : tkeyOf k = some κ) (r : Rep X.K X.mg ω H k y) : ∃ b, y = .ref b ∧ H b = some (.tup (κ.map kV)) := by
  cases k <;> simp only [tkeyOf] at h <;> try cases h
  cases r with
  | tup hq rr =>
    have ev := keysOf_reps h rr
    subst ev
    exact ⟨_, rfl, hq⟩
/-- a dict asked for a key -/
theorem dget_rep {d k : D} {x y : V} {o : Option D} (st : St0 X.K X.mg ω H S) (h : dgetS S d k = some o) (r : Rep X.K X.mg ω H d x) (rk : Rep X.K X.mg ω H k y) :
    ∃ a o', x = .ref a ∧ DGet H a y o' ∧ o.isSome = o'.isSome ∧ ∀ e, o = some e → ∃ v, o' = some v ∧ Rep X.K X.mg ω H e v := by
  unfold dgetS at h
  split at h
  · rename_i kvs hd
    simp only [Option.map_eq_some_iff] at h
    obtain ⟨κ, hk, rfl⟩ := h
    obtain ⟨a, rfl, ⟨_, ws, ha, rw'⟩ | ⟨z, _⟩⟩ := dctOf_rep st hd r
    · rw [keyOf_is hk rk]
      obtain ⟨h1, h2⟩ := lookD_rep κ rw'
      exact ⟨a, _, rfl, .inl ⟨_, _, ha, rfl, rfl⟩, h1, h2⟩
    · cases z
  · rename_i kvs hd
    simp only [Option.map_eq_some_iff] at h
    obtain ⟨κ, hk, rfl⟩ := h
    obtain ⟨a, rfl, ⟨z, _⟩ | ⟨_, ws, ha, rw'⟩⟩ := dctOf_rep st hd r
    · cases z
    · obtain ⟨b, rfl, hb⟩ := tkeyOf_is hk rk
      obtain ⟨h1, h2⟩ := lookT_rep κ rw'
      exact ⟨a, _, rfl, .inr ⟨_, _, _, ha, rfl, hb, rfl⟩, h1, h2⟩
  · cases h
end
/-! ### the operators of comparison -/
section
variable {X : Cx} {pins : List (Addr × Obj)} {σ : St} {H : Hp} {s : Shared} {ω : Om} {S : Sto}
theorem PostB.cmp {op : CmpOp} {x y : D} {b : Bool} {Q : VK} (h : cmpS op S x y = some b) (st : St0 X.K X.mg ω H S) (p : PostB X.K X.mg ω H (cmpD op x y S) Q) : Q (.bl b) H := by
  unfold cmpD cmpR at p
  rw [h] at p
  exact p (.bl b) ω H Ext.refl st (.bl b)
theorem nonD_rep {d : D} {x : V} (r : Rep X.K X.mg ω H d x) : nonD d = decide (x = V.non) := by cases r <;> rfl
theorem inStr_eq (a b : Str) : inStr a b = !(Builtin.Str.occurrences b a 0 b.length 1).isEmpty := by
  unfold inStr
  split
  · rename_i c hc
    have e : a = ⟨#[c]⟩ := by
      cases a with
      | mk cps =>
        have : cps = #[c] := by
          apply Array.toList_inj.mp
          simpa using hc
        rw [this]
    rw [e]
    exact (PySem.StrLaws.found_one b c).symm
  · rfl
theorem opD_cmp (hu : X.A.units + 130 < cLine) (op : CmpOp) : OpD X (compareOp op) (cmpD op) := by
  refine opD_of fun pins s σ H x y v u Q ω d e S I rx ry st r1 r2 p => ?_
  cases hc : cmpS op S d e with
  | none =>
    unfold cmpD cmpR at p
    rw [hc] at p
    exact p.elim
  | some b =>
  have q := PostB.cmp hc st p
  have fin : ∀ {b' : Bool}, b = b' → EP X pins σ Q (.bool b') s := fun e => fin_bl I q e
  have small : ∀ {n m : Nat}, m ≤ 60 → X.A.units + min n m < cLine := fun h => by omega
  cases op with
  | Eq =>
    simp only [cmpS, eqS] at hc
    split at hc
    · rename_i p1 p2 h1 h2
      cases hc
      obtain ⟨as, ra⟩ := reads_of I st 60 d p1 x v (toPyN_imp _ _ _ h1) r1 rx
      obtain ⟨bs, rb⟩ := reads_of I st 60 e p2 y u (toPyN_imp _ _ _ h2) r2 ry
      exact rcAt_py ra rb (toPyN_no _ _ _ h1) (toPyN_no _ _ _ h2) (small (depth_of _ _ _ (toPyN_imp _ _ _ h2))) _ _ _ _ (fin rfl)
    · cases hc
  | NotEq =>
    simp only [cmpS, eqS] at hc
    split at hc
    · rename_i p1 p2 h1 h2
      cases hc
      obtain ⟨as, ra⟩ := reads_of I st 60 d p1 x v (toPyN_imp _ _ _ h1) r1 rx
      obtain ⟨bs, rb⟩ := reads_of I st 60 e p2 y u (toPyN_imp _ _ _ h2) r2 ry
      exact rcNe_py ra rb (toPyN_no _ _ _ h1) (toPyN_no _ _ _ h2) (small (depth_of _ _ _ (toPyN_imp _ _ _ h2))) _ _ _ _ (fin rfl)
    · cases hc
  | Lt =>
    simp only [cmpS] at hc
    unfold ltS at hc
    split at hc
    · cases r1; cases r2; cases hc
      exact op_lt pins s σ H _ _ v u Q I rx ry ⟨_, _, rfl, rfl, q⟩
    · cases r1; cases r2; cases hc
      exact op_lt_str pins s σ H _ _ v u Q I rx ry ⟨_, _, rfl, rfl, q⟩
    · split at hc
      · rename_i ps qs h1 h2
        split at hc
        · rename_i hal
          cases hc
          obtain ⟨as, ra⟩ := reads_of I st 60 d _ x v (toPyN_imp _ _ _ h1) r1 rx
          obtain ⟨bs, rb⟩ := reads_of I st 60 e _ y u (toPyN_imp _ _ _ h2) r2 ry
          exact PySem.W.rcLt_alike _ _ _ _ _ _ _ _ ra rb (by simpa [PySem.W.alike] using hal) (by simp) (small (depth_of _ _ _ (toPyN_imp _ _ _ h2))) _ _ _ _ (fin rfl)
        · cases hc
      · rename_i ps qs h1 h2
        split at hc
        · rename_i hal
          cases hc
          obtain ⟨as, ra⟩ := reads_of I st 60 d _ x v (toPyN_imp _ _ _ h1) r1 rx
          obtain ⟨bs, rb⟩ := reads_of I st 60 e _ y u (toPyN_imp _ _ _ h2) r2 ry
          exact PySem.W.rcLt_alike _ _ _ _ _ _ _ _ ra rb (by simpa [PySem.W.alike] using hal) (by simp) (small (depth_of _ _ _ (toPyN_imp _ _ _ h2))) _ _ _ _ (fin rfl)
        · cases hc
      · cases hc
  | Gt =>
    simp only [cmpS] at hc
    split at hc
    · cases r1; cases r2; cases hc
      exact op_gt pins s σ H _ _ v u Q I rx ry ⟨_, _, rfl, rfl, q⟩
    · cases r1; cases r2; cases hc
      exact op_gt_str pins s σ H _ _ v u Q I rx ry ⟨_, _, rfl, rfl, q⟩
    · cases hc
  | LtE =>
    simp only [cmpS] at hc
    unfold leS at hc
    split at hc
    · cases r1; cases r2; cases hc
      exact op_le pins s σ H _ _ v u Q I rx ry ⟨_, _, rfl, rfl, q⟩
    · cases r1; cases r2; cases hc
      exact op_le_str pins s σ H _ _ v u Q I rx ry ⟨_, _, rfl, rfl, q⟩
    · cases hc
  | GtE =>
    simp only [cmpS] at hc
    unfold leS at hc
    split at hc
    · cases r1; cases r2; cases hc
      exact op_ge pins s σ H _ _ v u Q I rx ry ⟨_, _, rfl, rfl, q⟩
    · cases r1; cases r2; cases hc
      exact op_ge_str pins s σ H _ _ v u Q I rx ry ⟨_, _, rfl, rfl, q⟩
    · cases hc
  | In =>
    simp only [cmpS] at hc
    unfold inS at hc
    split at hc
    · cases r1; cases r2; cases hc
      exact op_in_str pins s σ H _ _ v u Q I rx ry ⟨_, _, rfl, rfl, by rw [← inStr_eq]; exact q⟩
    · split at hc
      · rename_i ys hs
        split at hc
        · rename_i p1 ps h1 h2
          cases hc
          obtain ⟨a, vs, rfl, hv, rr⟩ := seqOf_rep st hs r2
          cases ry
          obtain ⟨as, ra⟩ := reads_of I st 60 d p1 x v (toPyN_imp _ _ _ h1) r1 rx
          rcases hv with hv | hv
          · obtain ⟨its, rv, hp, _⟩ := I.list hv
            obtain ⟨bs, rb⟩ := readsAll_of (fun d p v u => reads_of I st 59 d p v u) (optAll_imp (toPyN_imp 59) h2) rr rv
            obtain ⟨z1, z2⟩ := items_py (A := X.A) (vs := its.toArray) (by simpa using rb) ra (hasDictAll_of (toPyN_no 59) h2) (toPyN_no _ _ _ h1) (depth_of _ _ _ (toPyN_imp _ _ _ h1)) (by omega)
            exact SeqAt.in_listAt _ hp.isList z1 (by rw [z2]; exact fin rfl)
          · obtain ⟨its, rv, hp, _⟩ := I.tuple hv
            obtain ⟨bs, rb⟩ := readsAll_of (fun d p v u => reads_of I st 59 d p v u) (optAll_imp (toPyN_imp 59) h2) rr rv
            obtain ⟨z1, z2⟩ := items_py (A := X.A) (vs := its.toArray) (by simpa using rb) ra (hasDictAll_of (toPyN_no 59) h2) (toPyN_no _ _ _ h1) (depth_of _ _ _ (toPyN_imp _ _ _ h1)) (by omega)
            exact SeqAt.in_tupleAt _ hp z1 (by rw [z2]; exact fin rfl)
        · cases hc
      · simp only [Option.map_eq_some_iff] at hc
        obtain ⟨o, ho, rfl⟩ := hc
        obtain ⟨a, o', rfl, g, e1, _⟩ := dget_rep st ho r2 r1
        cases ry
        exact d_in (by omega) I g rx fun s' I' => ⟨.bl _, H, I', by rw [← e1]; rfl, q⟩
  | NotIn =>
    simp only [cmpS] at hc
    unfold inS at hc
    split at hc
    · cases r1; cases r2; cases hc
      exact op_notin_str pins s σ H _ _ v u Q I rx ry ⟨_, _, rfl, rfl, by rw [← inStr_eq]; exact q⟩
    · split at hc
      · rename_i ys hs
        split at hc
        · rename_i p1 ps h1 h2
          cases hc
          obtain ⟨a, vs, rfl, hv, rr⟩ := seqOf_rep st hs r2
          cases ry
          obtain ⟨as, ra⟩ := reads_of I st 60 d p1 x v (toPyN_imp _ _ _ h1) r1 rx
          rcases hv with hv | hv
          · obtain ⟨its, rv, hp, _⟩ := I.list hv
            obtain ⟨bs, rb⟩ := readsAll_of (fun d p v u => reads_of I st 59 d p v u) (optAll_imp (toPyN_imp 59) h2) rr rv
            obtain ⟨z1, z2⟩ := items_py (A := X.A) (vs := its.toArray) (by simpa using rb) ra (hasDictAll_of (toPyN_no 59) h2) (toPyN_no _ _ _ h1) (depth_of _ _ _ (toPyN_imp _ _ _ h1)) (by omega)
            exact SeqAt.notIn_listAt _ hp.isList z1 (by rw [z2]; exact fin rfl)
          · obtain ⟨its, rv, hp, _⟩ := I.tuple hv
            obtain ⟨bs, rb⟩ := readsAll_of (fun d p v u => reads_of I st 59 d p v u) (optAll_imp (toPyN_imp 59) h2) rr rv
            obtain ⟨z1, z2⟩ := items_py (A := X.A) (vs := its.toArray) (by simpa using rb) ra (hasDictAll_of (toPyN_no 59) h2) (toPyN_no _ _ _ h1) (depth_of _ _ _ (toPyN_imp _ _ _ h1)) (by omega)
            exact SeqAt.notIn_tupleAt _ hp z1 (by rw [z2]; exact fin rfl)
        · cases hc
      · simp only [Option.map_eq_some_iff] at hc
        obtain ⟨o2, ⟨o, ho, rfl⟩, rfl⟩ := hc
        obtain ⟨a, o', rfl, g, e1, _⟩ := dget_rep st ho r2 r1
        cases ry
        exact d_notIn (by omega) I g rx fun s' I' => ⟨.bl _, H, I', by rw [← e1]; rfl, q⟩
  | Is =>
    simp only [cmpS] at hc
    unfold isS at hc
    split at hc
    · cases r2; cases hc
      refine op_isN pins s σ H _ _ v u Q I rx ry ⟨rfl, ?_⟩
      rw [nonD_rep r1] at q; exact q
    · cases r1; cases r2; cases hc
      exact op_isBl pins s σ H _ _ v u Q I rx ry ⟨_, _, rfl, rfl, q⟩
    · cases hc
  | IsNot =>
    simp only [cmpS] at hc
    unfold isS at hc
    split at hc
    · cases r2; cases hc
      refine op_notN pins s σ H _ _ v u Q I rx ry ⟨rfl, ?_⟩
      rw [nonD_rep r1] at q; exact q
    · cases r1; cases r2; cases hc
      exact op_notBl pins s σ H _ _ v u Q I rx ry ⟨_, _, rfl, rfl, q⟩
    · cases hc
end
end PL
end
section
set_option Elab.async false
set_option linter.all false
set_option maxRecDepth 100000
set_option maxHeartbeats 4000000
set_option autoImplicit false
/-! Part g: expressions. -/
namespace PL
open PySem L2

/-! ### what an expression is worth -/
def eVar (i : Nat) : Ev := fun ρ S => match ρ[i]? with
  | some (some d) => .ok d S
  | _ => .bad
def eC (d : D) : Ev := fun _ S => .ok d S
def eCmp (op : CmpOp) (f g : Ev) : Ev := fun ρ S => (f ρ S).bind fun d S1 => (g ρ S1).bind fun e S2 => cmpD op d e S2
def bCmp (op : CmpOp) (f g : Ev) : EvB := fun ρ S => (f ρ S).bind fun d S1 => (g ρ S1).bind fun e S2 => cmpR op d e S2
def eChain (o1 o2 : CmpOp) (f g h : Ev) : Ev := fun ρ S => (f ρ S).bind fun d S1 => (g ρ S1).bind fun e S2 => (cmpR o1 d e S2).bind fun c S3 => if c = true then (h ρ S3).bind fun k S4 => cmpD o2 e k S4 else .ok (.bl false) S3
def bChain (o1 o2 : CmpOp) (f g h : Ev) : EvB := fun ρ S => (f ρ S).bind fun d S1 => (g ρ S1).bind fun e S2 => (cmpR o1 d e S2).bind fun c S3 => if c = true then (h ρ S3).bind fun k S4 => cmpR o2 e k S4 else .ok false S3
def asB (d : D) (S : Sto) : Res Bool := match d with
  | .bl b => .ok b S
  | _ => .bad
def eAnd (f g : Ev) : Ev := fun ρ S => (f ρ S).bind fun d S1 => (asB d S1).bind fun c S2 => if c = true then g ρ S2 else .ok (.bl false) S2
def eOr (f g : Ev) : Ev := fun ρ S => (f ρ S).bind fun d S1 => (asB d S1).bind fun c S2 => if c = true then .ok (.bl true) S2 else g ρ S2
def eNot (f : Ev) : Ev := fun ρ S => (f ρ S).bind fun d S1 => (asB d S1).bind fun c S2 => .ok (.bl (!c)) S2
def bVal (f : Ev) : EvB := fun ρ S => (f ρ S).bind fun d S1 => asB d S1
def bAnd (f g : EvB) : EvB := fun ρ S => (f ρ S).bind fun c S1 => if c = true then g ρ S1 else .ok false S1
def bOr (f g : EvB) : EvB := fun ρ S => (f ρ S).bind fun c S1 => if c = true then .ok true S1 else g ρ S1
def bNot (f : EvB) : EvB := fun ρ S => (f ρ S).bind fun c S1 => .ok (!c) S1
def eIf (c : EvB) (f g : Ev) : Ev := fun ρ S => (c ρ S).bind fun b S1 => if b = true then f ρ S1 else g ρ S1
def aNil : EvL := fun _ S => .ok [] S
def aCons (f : Ev) (g : EvL) : EvL := fun ρ S => (f ρ S).bind fun d S1 => (g ρ S1).bind fun ds S2 => .ok (d :: ds) S2
def eTup (f : EvL) : Ev := fun ρ S => (f ρ S).bind fun ds S1 => if lenFits ds.length = true then .ok (.tup ds) S1 else .bad
def lLst (f : EvL) : EvL := fun ρ S => (f ρ S).bind fun ds S1 => if lenFits ds.length = true then .ok ds S1 else .bad
def eCall (fn : Fn) (f : EvL) : Ev := fun ρ S => (f ρ S).bind fun ds S1 => fn ds S1
def eCallD (fn : Fn) (dd : List D) (f : EvL) : Ev := fun ρ S => (f ρ S).bind fun ds S1 => fn (ds ++ dd) S1
def eUn (op : UnaryOp) (f : Ev) : Ev := fun ρ S => (f ρ S).bind fun d S1 => match op, d with
  | .USub, .int i => .ok (.int (-i)) S1
  | _, _ => .bad
def ixS (S : Sto) (x i : D) : Option D := match seqOf S x, i with
  | some xs, .int k => atI xs k
  | _, i => match x, i with
    | .str z, .int k => if lenFits z.length = true then (atI z.cps.toList k).map fun c => .str ⟨#[c]⟩ else none
    | x, i => match dgetS S x i with
      | some (some d) => some d
      | _ => none
def ixD (x i : D) (S : Sto) : Res D := match ixS S x i with
  | some d => .ok d S
  | none => .bad
def eIx (f g : Ev) : Ev := fun ρ S => (f ρ S).bind fun d S1 => (g ρ S1).bind fun e S2 => ixD d e S2
/-- a slice's part -/
abbrev EvO := Fr → Sto → Res (Option Int)
def oNone : EvO := fun _ S => .ok none S
def partI (d : D) (S : Sto) : Res (Option Int) := match d with
  | .int i => .ok (some i) S
  | _ => .bad
def oSome (f : Ev) : EvO := fun ρ S => (f ρ S).bind partI
def cutD {α : Type} (xs : List α) (lo hi : Option Int) : List α := (xs.drop (HT.sIx xs.length 0 lo)).take (HT.sIx xs.length xs.length hi - HT.sIx xs.length 0 lo)
def slD (x : D) (lo hi : Option Int) (S : Sto) : Res D := match x with
  | .tup xs => .ok (.tup (cutD xs lo hi)) S
  | .scr xs => .ok (.lst (cutD xs lo hi)) S
  | .str z => if lenFits z.length = true then .ok (.str (cutS z lo hi)) S else .bad
  | x => match listOf S x with
    | some xs => .ok (.lst (cutD xs lo hi)) S
    | none => .bad
def eSl (f : Ev) (lo hi : EvO) : Ev := fun ρ S => (f ρ S).bind fun d S1 => (lo ρ S1).bind fun l S2 => (hi ρ S2).bind fun h S3 => slD d l h S3

section
variable {X : Cx} {W : WX} {a b c : Expr} {f g h : Ev} {pos : Pos}

theorem de_var {i : Nat} {x : Str} (hN : X.N[i]? = some x) (hv : Vis X.env.scope x) (hd : (x == ("__debug__" : Str)) = false) (hc : (x == ("__classdict__" : Str)) = false) : DE X W (.Name x pos) (eVar i) :=
  PE.imp (pe_var hN hv hd hc) fun σ H Q ⟨ω, ρ, S, at_, p⟩ => by
    unfold eVar at p
    split at p
    · rename_i d hd
      obtain ⟨v, hv, r⟩ := at_.fr.val i d hd
      exact ⟨v, hv, p.fin at_ r⟩
    · exact p.elim
theorem de_const {d : D} {v : V} {e : Expr} (h : PE X e (tC v)) (hr : ∀ ω H, Rep X.K X.mg ω H d v) : DE X W e (eC d) :=
  PE.imp h fun σ H Q ⟨ω, ρ, S, at_, p⟩ => p.fin at_ (hr ω H)
theorem de_int {i : Int} {j : Nat} : DE X W (.Constant (.int i) j pos) (eC (.int i)) := de_const pe_int fun _ _ => .int i
theorem de_bl {i : Bool} {j : Nat} : DE X W (.Constant (.bool i) j pos) (eC (.bl i)) := de_const pe_bl fun _ _ => .bl i
theorem de_non {j : Nat} : DE X W (.Constant .none j pos) (eC .non) := de_const pe_non fun _ _ => .non
theorem de_str {i : Str} {j : Nat} : DE X W (.Constant (.str i) j pos) (eC (.str i)) := de_const pe_str fun _ _ => .str i
/-- a constant of the module -/
inductive Flat : D → V → Prop
  | int (i : Int) : Flat (.int i) (.int i)
  | str (x : Str) : Flat (.str x) (.str x)
  | bl (b : Bool) : Flat (.bl b) (.bl b)
  | non : Flat .non .non
theorem Flat.rep {d : D} {v : V} (h : Flat d v) {K : PySem.W.Frag} {mg : Str → Option Value} (ω : Om) (H : Hp) : Rep K mg ω H d v := by
  cases h with
  | int i => exact .int i
  | str i => exact .str i
  | bl i => exact .bl i
  | non => exact .non
theorem de_glob {x : Str} {d : D} {v : V} {u : Value} (hg : Gl X x) (hm : X.mg x = some u) (r : RelV v u) (hf : Flat d v) (hd : (x == ("__debug__" : Str)) = false) : DE X W (.Name x pos) (eC d) :=
  de_const (pe_glob hg hm r hd) fun ω H => hf.rep ω H

theorem cmpR_calm (op : CmpOp) (x y : D) (S : Sto) : ∀ z S', cmpR op x y S ≠ .ex z S' := by
  intro z S' h
  unfold cmpR at h
  split at h <;> cases h
theorem cmpD_calm (op : CmpOp) (x y : D) (S : Sto) : ∀ z S', cmpD op x y S ≠ .ex z S' := by
  intro z S' h
  unfold cmpD Res.val at h
  cases q : cmpR op x y S with
  | ok b S1 => rw [q] at h; cases h
  | ex z S1 => exact cmpR_calm op x y S z S1 q
  | bad => rw [q] at h; cases h
theorem de_cmp {op : CmpOp} (hu : X.A.units + 130 < cLine) (ha : DE X W a f) (hb : DE X W b g) (hm : behindInMarks op b = false) : DE X W (.Compare a [op] [b] pos) (eCmp op f g) :=
  PE.imp (pe_cmpR (opD_cmp hu op) ha hb hm) fun σ H Q h => tOp_of (cmpD_calm op) (fun _ _ _ _ h => h) h
/-- a comparison's value asked as a test -/
theorem PostT.cmpB {op : CmpOp} {ω : Om} {H : Hp} {σ : St} {x y : D} {S : Sto} {Q : Bool → Hp → Prop} {R : VK} (p : PostT X.K X.mg W ω H σ (cmpR op x y S) Q) (hR : ∀ k H, Q k H → R (.bl k) H) : PostB X.K X.mg ω H (cmpD op x y S) R := by
  unfold cmpD
  cases q : cmpR op x y S with
  | ok b S1 =>
    rw [q] at p
    intro v ω' H' e s r
    cases r
    exact hR _ _ (p ω' H' e s)
  | ex z S1 => exact absurd q (cmpR_calm op x y S z S1)
  | bad => rw [q] at p; exact p.elim
theorem dt_cmp {op : CmpOp} (hu : X.A.units + 130 < cLine) (ha : DE X W a f) (hb : DE X W b g) (hm : behindInMarks op b = false) : DT X W (.Compare a [op] [b] pos) (bCmp op f g) :=
  PT.imp (pt_cmpR (opD_cmp hu op) ha hb hm) fun σ H Q ⟨ω, ρ, S, at_, p⟩ => by
    refine tD_bindT at_ p fun d S1 v ω1 H1 e1 a1 r1 p1 => ?_
    refine tD_bindT a1 p1 fun d2 S2 v2 ω2 H2 e2 a2 r2 p2 => ?_
    exact ⟨ω2, d, d2, S2, a2.st, r1.keep a1.st.ok e2, r2, p2.cmpB fun k H q => ⟨k, rfl, q⟩⟩
theorem de_chain {o1 o2 : CmpOp} (hu : X.A.units + 130 < cLine) (ha : DE X W a f) (hb : DE X W b g) (hc : DE X W c h) (hm : lastMarks [o1, o2] [b, c] = false) : DE X W (.Compare a [o1, o2] [b, c] pos) (eChain o1 o2 f g h) :=
  PE.imp (pe_chain (opD_cmp hu o1) (opD_cmp hu o2) ha hb hc hm) fun σ H Q ⟨ω, ρ, S, at_, p⟩ => by
    refine tD_bind at_ p fun d S1 v ω1 H1 e1 a1 r1 p1 => ?_
    refine tD_bind a1 p1 fun d2 S2 v2 ω2 H2 e2 a2 r2 p2 => ?_
    refine ⟨ω2, d, d2, S2, a2.st, r1.keep a1.st.ok e2, r2, ?_⟩
    unfold cmpD
    cases q : cmpR o1 d d2 S2 with
    | ok k S3 =>
      rw [q] at p2
      intro v3 ω3 H3 e3 s3 r3
      cases r3
      refine ⟨k, rfl, ?_⟩
      cases k with
      | true =>
        rw [if_pos rfl]
        have a3 := a2.go e3 s3
        have p3 := p2.sh e3
        refine tD_bind a3 p3 fun d4 S4 v4 ω4 H4 e4 a4 r4 p4 => ?_
        exact ⟨ω4, d2, d4, S4, a4.st, (r2.keep a2.st.ok e3).keep s3.ok e4, r4, p4.toB fun z S' => cmpD_calm o2 _ _ _ z S'⟩
      | false =>
        rw [if_neg Bool.false_ne_true]
        exact p2 (.bl false) ω3 H3 e3 s3 (.bl false)
    | ex z S1 => exact absurd q (cmpR_calm o1 d d2 S2 z S1)
    | bad => rw [q] at p2; exact p2.elim
theorem dt_chain {o1 o2 : CmpOp} (hu : X.A.units + 130 < cLine) (ha : DE X W a f) (hb : DE X W b g) (hc : DE X W c h) (hm : lastMarks [o1, o2] [b, c] = false) : DT X W (.Compare a [o1, o2] [b, c] pos) (bChain o1 o2 f g h) :=
  PT.imp (pt_chain (opD_cmp hu o1) (opD_cmp hu o2) ha hb hc hm) fun σ H Q ⟨ω, ρ, S, at_, p⟩ => by
    refine tD_bindT at_ p fun d S1 v ω1 H1 e1 a1 r1 p1 => ?_
    refine tD_bindT a1 p1 fun d2 S2 v2 ω2 H2 e2 a2 r2 p2 => ?_
    refine ⟨ω2, d, d2, S2, a2.st, r1.keep a1.st.ok e2, r2, ?_⟩
    unfold cmpD
    cases q : cmpR o1 d d2 S2 with
    | ok k S3 =>
      rw [q] at p2
      intro v3 ω3 H3 e3 s3 r3
      cases r3
      refine ⟨k, rfl, ?_⟩
      cases k with
      | true =>
        rw [if_pos rfl]
        have a3 := a2.go e3 s3
        have p3 := p2.sh e3
        refine tD_bindT a3 p3 fun d4 S4 v4 ω4 H4 e4 a4 r4 p4 => ?_
        exact ⟨ω4, d2, d4, S4, a4.st, (r2.keep a2.st.ok e3).keep s3.ok e4, r4, p4.cmpB fun k H q => ⟨k, rfl, q⟩⟩
      | false =>
        rw [if_neg Bool.false_ne_true]
        exact ⟨false, rfl, p2 ω3 H3 e3 s3⟩
    | ex z S1 => exact absurd q (cmpR_calm o1 d d2 S2 z S1)
    | bad => rw [q] at p2; exact p2.elim

/-- a truth value at hand -/
theorem asB_bind {α : Type} {k : Bool → Sto → Res α} {ω : Om} {H : Hp} {d : D} {v : V} {S : Sto} {P : Res α → Prop} (r : Rep X.K X.mg ω H d v) (hb : ¬ P .bad) (p : P ((asB d S).bind k)) : ∃ b, v = .bl b ∧ P (k b S) := by
  unfold asB at p
  split at p
  · cases r; exact ⟨_, rfl, p⟩
  · exact absurd p hb
variable {A B : EvB} {rest : List Expr}
theorem de_one {op : BoolOp} (ha : DE X W a f) : DE X W (.BoolOp op [a] pos) f := pe_one ha
theorem de_and (ha : DE X W a f) (hb : DE X W (.BoolOp .And (b :: rest) pos) g) : DE X W (.BoolOp .And (a :: b :: rest) pos) (eAnd f g) :=
  PE.imp (pe_and ha hb) fun σ H Q ⟨ω, ρ, S, at_, p⟩ => by
    refine tD_bind at_ p fun d S1 v ω1 H1 e1 a1 r1 p1 => ?_
    obtain ⟨k, e, p2⟩ := asB_bind (P := fun z => PostE X.K X.mg W ω1 H1 σ z Q) r1 (fun z => z) p1
    refine ⟨k, e, ?_⟩
    cases k with
    | true => rw [if_pos rfl]; exact ⟨ω1, ρ, S1, a1, p2⟩
    | false => rw [if_neg Bool.false_ne_true]; exact PostE.fin a1 p2 (.bl false)
theorem de_or (ha : DE X W a f) (hb : DE X W (.BoolOp .Or (b :: rest) pos) g) : DE X W (.BoolOp .Or (a :: b :: rest) pos) (eOr f g) :=
  PE.imp (pe_or ha hb) fun σ H Q ⟨ω, ρ, S, at_, p⟩ => by
    refine tD_bind at_ p fun d S1 v ω1 H1 e1 a1 r1 p1 => ?_
    obtain ⟨k, e, p2⟩ := asB_bind (P := fun z => PostE X.K X.mg W ω1 H1 σ z Q) r1 (fun z => z) p1
    refine ⟨k, e, ?_⟩
    cases k with
    | false => rw [if_neg Bool.false_ne_true]; exact ⟨ω1, ρ, S1, a1, p2⟩
    | true => rw [if_pos rfl]; exact PostE.fin a1 p2 (.bl true)
theorem de_not (ha : DE X W a f) : DE X W (.UnaryOp .Not a pos) (eNot f) :=
  PE.imp (pe_not ha) fun σ H Q ⟨ω, ρ, S, at_, p⟩ => by
    refine tD_bind at_ p fun d S1 v ω1 H1 e1 a1 r1 p1 => ?_
    obtain ⟨k, e, p2⟩ := asB_bind (P := fun z => PostE X.K X.mg W ω1 H1 σ z Q) r1 (fun z => z) p1
    exact ⟨k, e, PostE.fin a1 p2 (.bl _)⟩
theorem dt_val {e : Expr} (ha : DE X W e f) (he : ∀ whole, isTrue e X.env whole = (do let v ← whole; standAt e.pos; holding [v] (truthy v))) : DT X W e (bVal f) :=
  PT.imp (pt_val ha he) fun σ H Q ⟨ω, ρ, S, at_, p⟩ => by
    refine tD_bindT at_ p fun d S1 v ω1 H1 e1 a1 r1 p1 => ?_
    unfold asB at p1
    split at p1
    · cases r1
      exact ⟨_, rfl, PostT.fin a1 p1⟩
    · exact p1.elim
abbrev DW (X : Cx) (W : WX) (e : Expr) (f : EvB) : Prop := PW X e (tDT X.K X.mg W f)
theorem PW.imp {e : Expr} {t t' : TT} (h : PW X e t) (i : ∀ σ H Q, t' σ H Q → t σ H Q) : PW X e t' := ⟨fun wh pins s σ H Q I q => h.run wh pins s σ H Q I (i _ _ _ q)⟩
theorem dw_and1 (ha : DT X W a A) : DW X W (.BoolOp .And [a] pos) A := pw_and1 ha
theorem dw_or1 (ha : DT X W a A) : DW X W (.BoolOp .Or [a] pos) A := pw_or1 ha
theorem dw_and (ha : DT X W a A) (hb : DW X W (.BoolOp .And (b :: rest) pos) B) : DW X W (.BoolOp .And (a :: b :: rest) pos) (bAnd A B) :=
  PW.imp (pw_and ha hb) fun σ H Q ⟨ω, ρ, S, at_, p⟩ => by
    refine tDT_bindT at_ p fun k S1 ω1 H1 e1 a1 p1 => ?_
    cases k with
    | true => rw [if_pos rfl]; exact ⟨ω1, ρ, S1, a1, p1⟩
    | false => rw [if_neg Bool.false_ne_true]; exact PostT.fin a1 p1
theorem dw_or (ha : DT X W a A) (hb : DW X W (.BoolOp .Or (b :: rest) pos) B) : DW X W (.BoolOp .Or (a :: b :: rest) pos) (bOr A B) :=
  PW.imp (pw_or ha hb) fun σ H Q ⟨ω, ρ, S, at_, p⟩ => by
    refine tDT_bindT at_ p fun k S1 ω1 H1 e1 a1 p1 => ?_
    cases k with
    | false => rw [if_neg Bool.false_ne_true]; exact ⟨ω1, ρ, S1, a1, p1⟩
    | true => rw [if_pos rfl]; exact PostT.fin a1 p1
theorem dt_not (ha : DT X W a A) : DT X W (.UnaryOp .Not a pos) (bNot A) :=
  PT.imp (pt_not ha) fun σ H Q ⟨ω, ρ, S, at_, p⟩ => by
    refine tDT_bindT at_ p fun k S1 ω1 H1 e1 a1 p1 => ?_
    exact PostT.fin a1 p1
theorem de_if (hc : DT X W c A) (ha : DE X W a f) (hb : DE X W b g) : DE X W (.IfExp c a b pos) (eIf A f g) :=
  PE.imp (pe_ifExp hc ha hb) fun σ H Q ⟨ω, ρ, S, at_, p⟩ => by
    refine tDT_bind at_ p fun k S1 ω1 H1 e1 a1 p1 => ?_
    cases k with
    | true => rw [if_pos rfl]; exact ⟨ω1, ρ, S1, a1, p1⟩
    | false => rw [if_neg Bool.false_ne_true]; exact ⟨ω1, ρ, S1, a1, p1⟩

/-! ### lists of arguments, displays -/
variable {es : List Expr} {F : EvL}
theorem da_nil : DA X W [] aNil := PA.imp pa_nil fun σ H Q ⟨ω, ρ, S, at_, p⟩ => PostA.fin at_ p .nil
theorem da_cons (ha : DE X W a f) (hr : DA X W es F) (hs : starEach (a :: es) X.env = (false, eval a X.env) :: starEach es X.env) : DA X W (a :: es) (aCons f F) :=
  PA.imp (pa_cons ha hr hs) fun σ H Q ⟨ω, ρ, S, at_, p⟩ => by
    refine tD_bindA at_ p fun d S1 v ω1 H1 e1 a1 r1 p1 => ?_
    refine tDA_bindA a1 p1 fun ds S2 vs ω2 H2 e2 a2 r2 p2 => ?_
    exact PostA.fin a2 p2 (.cons (r1.keep a1.st.ok e2) r2)
theorem de_tup {k : Nat} (h : DA X W es F) : DE X W (.Tuple es k pos) (eTup F) :=
  PE.imp (pe_tup h) fun σ H Q ⟨ω, ρ, S, at_, p⟩ => by
    refine tDA_bind at_ p fun ds S1 vs ω1 H1 e1 a1 r1 p1 => ?_
    split at p1
    · rename_i hl
      have hl := lenFits_le hl
      rw [r1.length] at hl
      exact ⟨hl, fun q n => PostE.finT a1 p1 r1 n⟩
    · exact p1.elim
theorem dl_lst (h : DA X W es F) : DL X W (.List es pos) (lLst F) :=
  PE.imp (pe_lst h) fun σ H Q ⟨ω, ρ, S, at_, p⟩ => by
    refine tDA_bindL at_ p fun ds S1 vs ω1 H1 e1 a1 r1 p1 => ?_
    split at p1
    · rename_i hl
      have hl := lenFits_le hl
      rw [r1.length] at hl
      exact ⟨hl, fun q n => PostL.finL a1 p1 r1 n⟩
    · exact p1.elim
theorem de_un {op : UnaryOp} (ho : op = .USub) (ha : DE X W a f) : DE X W (.UnaryOp op a pos) (eUn op f) := by
  subst ho
  refine PE.imp (pe_un un_neg ha) fun σ H Q ⟨ω, ρ, S, at_, p⟩ => ?_
  refine tD_bind at_ p fun d S1 v ω1 H1 e1 a1 r1 p1 => ?_
  split at p1
  · cases r1
    exact ⟨_, rfl, PostE.fin a1 p1 (.int _)⟩
  · exact p1.elim

/-! ### subscripts, slices -/
theorem ix_all (hu : X.A.units + 1 < cLine) : IxR X (rB2 X.K X.mg ixD) := by
  intro value slice pins s σ H x y v u Q I rx ry ⟨ω, d, e, S, st, r1, r2, p⟩ hs
  unfold ixD at p
  split at p
  · rename_i z hz
    unfold ixS at hz
    split at hz
    · rename_i xs k hq
      obtain ⟨q, vs, rfl, hv, rr⟩ := seqOf_rep st hq r1
      cases r2
      unfold atI at hz
      obtain ⟨j, hj, hz⟩ := Option.bind_eq_some_iff.mp hz
      obtain ⟨w', hw, rw'⟩ := rr.get hz
      have hat : atI vs k = some w' := by
        unfold atI
        rw [← rr.length, hj]; exact hw
      refine ix_seq value slice pins s σ H _ _ v u Q I rx ry ?_ hs
      rcases hv with hv | hv
      · exact .inl ⟨_, _, _, _, rfl, rfl, hv, hat, p.fin st rw'⟩
      · exact .inr (.inl ⟨_, _, _, _, rfl, rfl, hv, hat, p.fin st rw'⟩)
    · split at hz
      · rename_i z' k _
        split at hz
        · rename_i hl
          simp only [Option.map_eq_some_iff] at hz
          obtain ⟨c, hc, rfl⟩ := hz
          cases r1; cases r2
          exact ix_seq value slice pins s σ H _ _ v u Q I rx ry (.inr (.inr ⟨_, _, _, rfl, rfl, lenFits_le hl, hc, p.fin st (.str _)⟩)) hs
        · cases hz
      · split at hz
        · rename_i hz'
          cases hz
          obtain ⟨q, o', rfl, g, e1, e2⟩ := dget_rep st hz' r1 r2
          obtain ⟨w', rfl, rw'⟩ := e2 _ rfl
          cases rx
          exact PyProof.Rows.tail_any (dict_typeIs I g) PySem.F.slot_dict_getitem.lookup (d_getItem hu I g ry fun w2 s' I' rw2 => ⟨w', H, I', rw2, p.fin st rw'⟩) hs
        · cases hz
  · exact p.elim
theorem ixD_calm (x y : D) (S : Sto) : ∀ z S', ixD x y S ≠ .ex z S' := by
  intro z S' h
  unfold ixD at h
  split at h <;> cases h
theorem de_ix (hu : X.A.units + 1 < cLine) (ha : DE X W a f) (hb : DE X W b g) (hs : PlainIx b) : DE X W (.Subscript a b pos) (eIx f g) :=
  PE.imp (pe_ix (ix_all hu) ha hb hs) fun σ H Q h => tOp_of ixD_calm (fun _ _ _ _ h => h) h
end
section
variable (K : PySem.W.Frag) (mg : Str → Option Value)
def PostO (W : WX) (ω : Om) (H : Hp) (σ : St) (r : Res (Option Int)) (Q : Option Int → Hp → Prop) : Prop :=
  match r with
  | .ok b S => ∀ ω' H', Ext ω H ω' H' → St0 K mg ω' H' S → Q b H'
  | .ex x S => PX K mg W ω H σ x S
  | .bad => False
def tDO (W : WX) (f : EvO) : TO := fun σ H Q => ∃ ω ρ S, At K mg ω H σ ρ S ∧ PostO K mg W ω H σ (f ρ S) Q
def rSlD (x : V) (lo hi : Option Int) (H : Hp) (Q : VK) : Prop := ∃ ω d S, St0 K mg ω H S ∧ Rep K mg ω H d x ∧ PostB K mg ω H (slD d lo hi S) Q
end
abbrev DO (X : Cx) (W : WX) (e : Option Expr) (f : EvO) : Prop := PO X e (tDO X.K X.mg W f)
theorem cutD_reps {K : PySem.W.Frag} {mg : Str → Option Value} {ω : Om} {H : Hp} {xs : List D} {vs : List V} (r : Reps K mg ω H xs vs) (lo hi : Option Int) : Reps K mg ω H (cutD xs lo hi) (cutV vs lo hi) := by
  unfold cutD cutV
  rw [r.length]
  exact (r.drop _).take _
section
variable {X : Cx} {W : WX} {a b c : Expr} {f g h : Ev} {pos p2 : Pos} {lo hi : Option Expr} {L M : EvO}
theorem PO.imp {e : Option Expr} {t t' : TO} (h : PO X e t) (i : ∀ σ H Q, t' σ H Q → t σ H Q) : PO X e t' := ⟨fun pins s σ H Q I q => h.run pins s σ H Q I (i _ _ _ q)⟩
theorem do_none : DO X W none oNone := PO.imp po_none fun σ H Q ⟨ω, ρ, S, at_, p⟩ => p ω H Ext.refl at_.st
theorem do_some (ha : DE X W a f) : DO X W (some a) (oSome f) := PO.imp (po_some ha) fun σ H Q ⟨ω, ρ, S, at_, p⟩ => by
  unfold oSome at p
  refine tD_go at_ (fun d S1 q v ω1 H1 e1 a1 r1 => ?_) (fun x S1 q => by rw [q] at p; exact p) fun q => by rw [q] at p; exact p
  rw [q] at p
  change PostO X.K X.mg W ω H σ (partI d S1) Q at p
  unfold partI at p
  split at p
  · cases r1
    exact ⟨_, rfl, p ω1 H1 e1 a1.st⟩
  · exact p.elim
theorem sl_all : SlR X (rSlD X.K X.mg) := by
  intro pins s σ H x v vl vu lo hi sl Q I rx hs pl pu ⟨ω, d, S, st, r, p⟩
  unfold slD at p
  split at p
  · rename_i xs
    cases r with
    | tup hq rr =>
      refine sl_tupA pins s σ H _ v vl vu lo hi sl Q I rx hs pl pu ⟨_, _, rfl, SqT.of hq, fun z => ?_, fun _ q n => p.finT st (cutD_reps rr lo hi) n⟩
      have e : cutD xs lo hi = xs := by
        unfold cutD
        rw [rr.length, z.1, z.2]
        simp only [List.drop_zero, Nat.sub_zero]
        rw [← rr.length, List.take_length]
      rw [e] at p
      exact p.fin st (.tup hq rr)
  · cases r with
    | scr hq rr => exact sl_list pins s σ H _ v vl vu lo hi sl Q I rx hs pl pu ⟨_, _, rfl, hq.elim (fun z => .inl (.inr z)) .inr, fun q n => p.finL st (cutD_reps rr lo hi) n⟩
  · cases r
    split at p
    · rename_i hl
      exact sl_str pins s σ H _ v vl vu lo hi sl Q I rx hs pl pu ⟨_, rfl, lenFits_le hl, p.fin st (.str _)⟩
    · exact p.elim
  · split at p
    · rename_i xs hl
      obtain ⟨q, vs, rfl, hv, rr⟩ := listOf_rep st hl r
      exact sl_list pins s σ H _ v vl vu lo hi sl Q I rx hs pl pu ⟨_, _, rfl, SqL.of hv, fun q n => p.finL st (cutD_reps rr lo hi) n⟩
    · exact p.elim
theorem slD_calm (x : D) (l h : Option Int) (S : Sto) : ∀ z S', slD x l h S ≠ .ex z S' := by
  intro z S' h
  unfold slD at h
  split at h <;> first | cases h | (split at h <;> cases h)
theorem de_sl (ha : DE X W a f) (hl : DO X W lo L) (hh : DO X W hi M) : DE X W (.Subscript a (.Slice lo hi none p2) pos) (eSl f L M) :=
  PE.imp (pe_slice sl_all ha hl hh) fun σ H Q ⟨ω, ρ, S, at_, p⟩ => by
    refine tD_bind at_ p fun d S1 v ω1 H1 e1 a1 r1 p1 => ?_
    refine ⟨ω1, ρ, S1, a1, ?_⟩
    cases q1 : L ρ S1 with
    | ex x S2 => rw [q1] at p1; exact p1
    | bad => rw [q1] at p1; exact p1.elim
    | ok l S2 =>
      rw [q1] at p1
      intro ω2 H2 e2 s2
      have a2 := a1.go e2 s2
      have p2 := PostE.sh e2 p1
      refine ⟨ω2, ρ, S2, a2, ?_⟩
      change PostE X.K X.mg W ω2 H2 σ ((M ρ S2).bind fun h S3 => slD d l h S3) Q at p2
      cases q2 : M ρ S2 with
      | ex x S3 => rw [q2] at p2; exact p2
      | bad => rw [q2] at p2; exact p2.elim
      | ok h S3 =>
        rw [q2] at p2
        intro ω3 H3 e3 s3
        have p3 := PostE.sh e3 p2
        exact ⟨ω3, d, S3, s3, (r1.keep a1.st.ok e2).keep s2.ok e3, p3.toB fun z S' => slD_calm _ _ _ _ z S'⟩
end

/-! ### calls -/
section
variable (K : PySem.W.Frag) (mg : Str → Option Value)
/-- what a def promises: what its mirror says -/
def PostF (ω : Om) (H : Hp) (r : Res D) (Q : VK) (E : XK) : Prop :=
  match r with
  | .ok d S => ∀ v ω' H', Ext ω H ω' H' → St0 K mg ω' H' S → Rep K mg ω' H' d v → Q v H'
  | .ex x S => ∀ c dx ω' H', Ext ω H ω' H' → St0 K mg ω' H' S → XRep K mg ω' H' x c dx → E c dx H'
  | .bad => False
def spD (fn : Fn) : Sp := fun vs H Q E => ∃ ω ds S, St0 K mg ω H S ∧ Reps K mg ω H ds vs ∧ PostF K mg ω H (fn ds S) Q E
end
/-- a def keeps its mirror, called at level k where nothing is being shown -/
structure FnD (P : Program) (w : World) (K : PySem.W.Frag) (mg : Str → Option Value) (base : Heap) (k : Nat) (f : Addr) (fd : FuncData) (ps : List Str) (fn : Fn) : Prop where
  len : ∀ ds S, fn ds S ≠ .bad → ds.length = ps.length
  run : ∀ (A : Around) (outer : List Env) (s : Shared) (H : Hp) (args : Args) (us : List Value) (vs : List V) (Q : VK) (E : XK), Room k A → A.guards = some [] → Env0 P w K mg base A outer s H → BindsTo s fd args (ps.zip us) → Vals vs us → spD K mg fn vs H Q E →
    codeAny (model P w) A (.call (.ref f) args) (CR (L2.CX P w) outer P w H s Q E) s
section
variable {X : Cx} {W : WX} {es : List Expr} {e : Expr} {F : EvL} {f : Addr} {fd : FuncData} {ps : List Str} {fn : Fn} {k : Nat} {x : Str} {p pos : Pos} {dvs : List V} {ds : List Value} {dd : List D}
theorem run_fnD {pins : List (Addr × Obj)} {σ : St} {H : Hp} {s : Shared} {Q : VK} {us : List Value} {vs : List V} (FD : FnD X.prog X.w X.K X.mg X.base k f fd ps fn) (hr : Room k X.A) (hg : X.A.guards = some []) (hb : Binds X.K fd ps ds) (hd : Vals dvs ds) (tk : Takes X W)
    (I : L2.Inv X pins σ H s) (r : Vals vs us) (h : spD X.K X.mg fn (vs ++ dvs) H Q (WE W σ)) : wpAny (model X.prog X.w) X.A (call (.ref f) us) (EP X pins σ Q) X.xe s := by
  have rr : Vals (vs ++ dvs) (us ++ ds) := r.append hd
  have hl : (us ++ ds).length = ps.length := by
    obtain ⟨ω, ds, S, _, q, z⟩ := h
    rw [← rr.length, ← q.length]
    refine FD.len ds S fun e => ?_
    rw [e] at z; exact z
  refine wpAny_call (codeAny_mono (FD.run X.A X.stack s H ⟨us, []⟩ (us ++ ds) (vs ++ dvs) Q (WE W σ) hr hg I.env0 (hb s us I.kIn hl) rr h) fun res s' q => ?_)
  cases res with
  | ok fl => cases fl with
    | ret u => exact I.after q
    | _ => exact False.elim q
  | error er => exact passAt tk σ pins H s er s' I q
/-- f(e, ..) with the defaults that fill up -/
theorem de_call (FD : FnD X.prog X.w X.K X.mg X.base k f fd ps fn) (hr : Room k X.A) (hgu : X.A.guards = some []) (hg : Gl X x) (hm : X.mg x = some (.ref f)) (hk : PySem.W.keepIn X.K (.ref f) = true) (hb : Binds X.K fd ps ds) (hd : Vals dvs ds) (hdd : ∀ ω H, Reps X.K X.mg ω H dd dvs)
    (tk : Takes X W) (ha : DA X W (e :: es) F) (hdb : (x == ("__debug__" : Str)) = false) (he : starEach (e :: es) X.env = (false, eval e X.env) :: starEach es X.env) (hpl : (backTo pos (starEach es X.env)).any (·.1) = false) :
    DE X W (.Call (.Name x p) (e :: es) [] pos) (eCallD fn dd F) := by
  refine ⟨fun pins s σ H Q I ⟨ω, ρ, S, at_, p⟩ => ?_⟩
  refine wpAny_Call_Name_kw (ld_glob I hg hm ?_ hdb)
  have h : tDA X.K X.mg W F σ H fun vs H1 => spD X.K X.mg fn (vs ++ dvs) H1 Q (WE W σ) := by
    refine tDA_bind at_ p fun ds S1 vs ω1 H1 e1 a1 r1 p1 => ?_
    exact ⟨ω1, ds ++ dd, S1, a1.st, r1.append (hdd ω1 H1), p1⟩
  refine PySem.W.callWith_K (h₀ := X.base) I.ok.mod.kin hk (thn (ha.run pos pins s σ H _ I h) fun us s1 ⟨vs, H1, I1, r, q⟩ => ⟨I1.kIn, ?_⟩) he hpl
  exact run_fnD FD hr hgu hb hd tk I1 r q
end
end PL
end
section
set_option Elab.async false
set_option linter.all false
set_option maxRecDepth 100000
set_option maxHeartbeats 4000000
set_option autoImplicit false
/-! Part ga: enumerate and zip over lists and tuples, in any mix. -/
namespace PL
open PySem L2 PySem.Spec PyProof.Rows

theorem mem2 {α : Type} {b x y : α} (h : b ∈ [x, y]) : b = x ∨ b = y := by simpa using h
/-- a list, or a tuple -/
def SqK (K : PySem.W.Frag) (κ : Bool) (H : Hp) (a : Addr) (xs : List V) : Prop := match κ with
  | true => SqL K H a xs
  | false => SqT K H a xs
def ItK (κ : Bool) (h : Heap) (it a : Addr) (i : Nat) : Prop := match κ with
  | true => h.IsListIter it a i
  | false => h.IsTupleIter it a i
def OnK (κ : Bool) (h : Heap) (a : Addr) (its : Array Value) : Prop := match κ with
  | true => h.IsList a its
  | false => h.IsTuple a its
theorem onK_of {X : Cx} {pins : List (Addr × Obj)} {σ : L2.St} {H : Hp} {s : Shared} {κ : Bool} {a : Addr} {xs : List V} (I : L2.Inv X pins σ H s) (q : SqK X.K κ H a xs) : ∃ its : List Value, Vals xs its ∧ OnK κ s.heap a its.toArray ∧ a < s.heap.objs.size := by
  cases κ with
  | true => obtain ⟨its, rv, p, _⟩ := I.list q; exact ⟨its, rv, p.isList, p.lt⟩
  | false =>
    obtain ⟨its, rv, p, _⟩ := I.tuple q
    have p' : s.heap.IsTuple a its.toArray := p
    obtain ⟨o, ho, _⟩ := id p'
    exact ⟨its, rv, p', Heap.lt_size ho⟩
theorem sqK_inj {X : Cx} {pins : List (Addr × Obj)} {σ : L2.St} {H : Hp} {s : Shared} {κ : Bool} {a : Addr} {xs ys : List V} (I : L2.Inv X pins σ H s) (p : SqK X.K κ H a xs) (q : SqK X.K κ H a ys) : xs = ys := by
  cases κ with
  | true => exact I.list_inj p q
  | false => exact I.tuple_inj p q
theorem ItK.at' {κ : Bool} {h h' : Heap} {it a : Addr} {i : Nat} (x : ItK κ h it a i) (k : ∀ o, h.get? it = some o → h'.get? it = some o) : ItK κ h' it a i := by
  cases κ with
  | true => exact Heap.IsListIter.at x k
  | false => exact Heap.IsTupleIter.at x k
theorem ItK.has {κ : Bool} {h : Heap} {it a : Addr} {i : Nat} (x : ItK κ h it a i) : ∃ o, h.get? it = some o ∧ ∀ v, o.data ≠ .cell v := by
  cases κ with
  | true => obtain ⟨o, h1, _, h2⟩ := x; exact ⟨o, h1, fun v q => by rw [h2] at q; cases q⟩
  | false => obtain ⟨o, h1, _, h2⟩ := x; exact ⟨o, h1, fun v q => by rw [h2] at q; cases q⟩
section
variable {P : Program} {w : World} {A : Around}
/-- its items are drawn -/
theorem drawsK (κ : Bool) (hh : A.handled = none) (it a : Addr) (hne : a ≠ it) (its : Array Value) : Draws P w A it [it, a] its.size (fun i v => its[i]? = some v) (fun i h => ItK κ h it a i ∧ OnK κ h a its) := by
  cases κ with
  | true => exact Draws.list hh it a hne its
  | false => exact Draws.tuple hh it a hne its
/-- at its end -/
theorem stuckK (κ : Bool) (hh : A.handled = none) (it a : Addr) (its : Array Value) (i0 : Nat) (he : its[i0]? = none) : Draws P w A it [it, a] i0 (fun _ _ => False) (fun i h => i = i0 ∧ ItK κ h it a i0 ∧ OnK κ h a its) where
  live := fun i h st => let ⟨o, ho, _⟩ := st.2.1.has; ⟨o, ho⟩
  frame := fun i h h' st k => ⟨st.1, st.2.1.at' fun o e => k it (by simp) o e, by
    cases κ with
    | true => exact Heap.IsList.at st.2.2 fun o e => k a (by simp) o e
    | false => exact Heap.IsTuple.at st.2.2 fun o e => k a (by simp) o e⟩
  item := fun i s Q E hi st hQ => absurd st.1 (Nat.ne_of_lt hi)
  done := fun s Q E st hE => by
    cases κ with
    | true => exact wpAny_nextOf_list_end hh st.2.1 st.2.2 he hE
    | false => exact wpAny_nextOf_tuple_end hh st.2.1 st.2.2 he hE
end

/-! ### enumerate -/
def IteK (K : PySem.W.Frag) (κ : Bool) (a : Addr) : It :=
  ⟨fun i H => ∃ (xs : List V) (x : V), SqK K κ H a xs ∧ xs[i]? = some x,
   fun i H v H' => ∃ T x, v = .ref T ∧ H T = none ∧ H' = upd H T (.tup [.int (i : Nat), x]) ∧ ∀ xs, SqK K κ H a xs → xs[i]? = some x,
   fun i H => ∃ xs : List V, SqK K κ H a xs ∧ xs.length ≤ i⟩
theorem turn_enumK {P : Program} {w : World} {K : PySem.W.Frag} {elts : List Expr} {kk : Nat} {tpos : Pos} (κ : Bool) (a e it : Addr) (h1 : e ≠ it) (h2 : a ≠ it) (h3 : e ≠ a) :
    Turn P w K (.Tuple elts kk tpos) (IteK K κ a) [e, it] e (fun i h => (∃ old, IsEnum h e it (0 + (i : Int)) old) ∧ ItK κ h it a i) where
  mem := by simp
  obj := fun i h st b hb => by
    rcases mem2 hb with z | z
    · obtain ⟨old, he⟩ := st.1; rw [z]; exact ⟨_, he, fun v q => nomatch q⟩
    · rw [z]; exact st.2.has
  keep := fun i h h' st k => ⟨let ⟨old, he⟩ := st.1; ⟨old, k e (by simp) _ he⟩, st.2.at' fun o q => k it (by simp) o q⟩
  item := by
    intro X hP hw hK hc i pins s σ H E I hf st hg; subst hP hw hK
    obtain ⟨xs, x, hq, hx⟩ := hg
    obtain ⟨its, rv, on, _⟩ := onK_of I hq
    obtain ⟨u, hu, ru⟩ := rv.get hx
    have hh : X.A.in1.handled = none := I.ok.hd hc
    have W := GoesN.enumFrom (elts := elts) (x1 := kk) (pos := tpos) 0 (drawsK (P := X.prog) (w := X.w) κ hh it a h2 its.toArray) e h1 (by simp [h1, h3]) (by simp)
    refine W.goes i s _ _ (by simp; exact (List.getElem?_eq_some_iff.mp hu).1) ⟨st.1, st.2, on⟩ fun v h' tk ⟨T, t, y, ev, hT, hy, tp⟩ st' hk htk => ?_
    subst ev
    have ey : y = u := by
      have hy' : its[i]? = some y := by simpa using hy
      rw [hu] at hy'; cases hy'; rfl
    subst ey
    obtain ⟨ot, et, ect, nt, edt⟩ := tp
    have ob : ObjOk X.prog X.w (upd H T (.tup [.int (i : Nat), x])) h' T (.tup [.int (i : Nat), x]) :=
      ⟨by show 2 ≤ sizeLine; decide, [.int (0 + (i : Int)) t, y], .cons ⟨t, by rw [Int.zero_add]⟩ (.cons ru .nil), ⟨ot, et, ect, nt, edt⟩⟩
    refine ⟨.ref T, _, I.turnedNew (t' := tk) (ch := [e, it]) hk hf hT ob, rfl, ⟨T, x, rfl, I.hok.fresh hT, rfl, fun ys hy => by rw [sqK_inj I hy hq]; exact hx⟩, ⟨st'.1, st'.2.1⟩, fun b hb => ?_⟩
    have hlt : b < s.heap.objs.size := by
      rcases mem2 hb with z | z
      · obtain ⟨old, he⟩ := st.1; rw [z]; exact Heap.lt_size he
      · obtain ⟨o, ho, _⟩ := st.2.has; rw [z]; exact Heap.lt_size ho
    rw [upd_ne (Nat.ne_of_lt (Nat.lt_of_lt_of_le hlt hT))]
    exact (hf b hb).1
  done := by
    intro X hP hw hK hc i pins s σ H E I hf st hg; subst hP hw hK
    obtain ⟨xs, hq, hx⟩ := hg
    obtain ⟨its, rv, on, _⟩ := onK_of I hq
    have hl := rv.length
    have hh : X.A.in1.handled = none := I.ok.hd hc
    have W := GoesN.enumFrom (elts := elts) (x1 := kk) (pos := tpos) 0 (stuckK (P := X.prog) (w := X.w) κ hh it a its.toArray i (by simp; omega)) e h1 (by simp [h1, h3]) (by simp)
    exact W.stops s _ _ ⟨st.1, rfl, st.2, on⟩ fun h' tk hk htk => I.turnedL (t' := tk) (ch := [e, it]) hk hf
  self := fun A i s Q E st h => let ⟨⟨_, he⟩, _⟩ := st; wpAny_pyIter_enum he h
set_option maxHeartbeats 1000000 in
/-- enumerate of a thing that begins -/
theorem new_enum1 {v : Value} {o : Obj} {G : Heap → Prop} (B : Begins v o G) :
    Meets (Builtin.«enumerate.__new__» ⟨[.type "enumerate", v], []⟩) (fun _ R s => G s.heap ∧ R (.ok (.ret (.ref (s.heap.push o).objs.size)))
      { s with heap := (s.heap.push o).push { cls := .type "enumerate", data := .fields #[.none, .bool false, .ref s.heap.objs.size, rawInt 0, .none, .none] } }) := .of_wp fun prog w A R s ⟨g1, g2⟩ => by
  obtain ⟨hp, gn, dr, tk, os⟩ := s
  have e1 := sub_enumerate
  have e2 : ∀ {A' : Around} {E : Value → Shared → Prop} {Q : Value → Shared → Prop}, Q (.ref hp.objs.size) ⟨hp.push o, gn, dr, tk, os⟩ → wpAny (model prog w) A' (pyIter v) Q E ⟨hp, gn, dr, tk, os⟩ := fun q => B.iter prog w _ _ ⟨hp, gn, dr, tk, os⟩ _ g1 q
  wp_walk using e2
  refine wpAny_stack_any fun _ => wpAny_pure ?_
  split
  · rename_i c _ _ _ _ _
    cases (c == Value.type "enumerate") <;> (wp_walk using e2; exact ⟨_, rfl, g2⟩)
  · wp_walk using e2; exact ⟨_, rfl, g2⟩
theorem call_enum1 {P : Program} {w : World} {A : Around} {E : Value → Shared → Prop} {s : Shared} {v : Value} {o : Obj} {G : Heap → Prop} {Q : Value → Shared → Prop} (B : Begins v o G) (g1 : G s.heap)
    (h : ∀ h', IsEnum h' (s.heap.objs.size + 1) s.heap.objs.size 0 .none → h'.get? s.heap.objs.size = some o → (∀ b o, s.heap.get? b = some o → h'.get? b = some o) → Q (.ref (s.heap.objs.size + 1)) { s with heap := h' }) :
    wpAny (model P w) A (call (.type "enumerate") [v]) Q E s := by
  refine callType_new F.called_enumerate (by decide) (F.typeCall_enumerate_1 _) (F.newCall_enumerate_1 _) (fun obj => F.args_object_init_2 obj _) F.entry_enumerate_new (new_enum1 B) ⟨g1, ?_⟩
  have z1 : (s.heap.push o).objs.size = s.heap.objs.size + 1 := Heap.size_push ..
  show _ ∧ _
  rw [z1]
  have z2 := Heap.get?_push_size (s.heap.push o) (o := { cls := .type "enumerate", data := .fields #[.none, .bool false, .ref s.heap.objs.size, rawInt 0, .none, .none] }) rfl
  rw [z1] at z2
  exact ⟨⟨_, z2, rfl⟩, h _ z2 (Heap.get?_push_of_some _ (Heap.get?_push_size _ B.free)) fun b o x => Heap.get?_push_of_some _ (Heap.get?_push_of_some _ x)⟩
/-- the iterator of a list, of a tuple -/
def itObj (κ : Bool) (a : Addr) : Obj := match κ with
  | true => { cls := .type "list_iterator", data := .fields #[.ref a, .int 0 0] }
  | false => { cls := .type "tuple_iterator", data := .fields #[.ref a, .int 0 0] }
theorem beginsK (κ : Bool) (a : Addr) (its : Array Value) : Begins (.ref a) (itObj κ a) fun h => OnK κ h a its := by
  cases κ with
  | true => exact begins_list a its
  | false => exact begins_tuple a its
theorem itK_new {κ : Bool} {h : Heap} {it a : Addr} (e : h.get? it = some (itObj κ a)) : ItK κ h it a 0 := by
  cases κ with
  | true => exact ⟨_, e, rfl, rfl⟩
  | false => exact ⟨_, e, rfl, rfl⟩
def iEnumK (K : PySem.W.Frag) (ta : TA) : TI := fun σ H R => ta σ H fun vs H1 => ∃ κ a xs, vs = [.ref a] ∧ SqK K κ H1 a xs ∧ R (IteK K κ a) H1
theorem pi_enumK {X : Cx} {e : Expr} {ta : TA} {p pos tpos : Pos} {elts : List Expr} {kk : Nat} (hg : Gl X "enumerate") (hm : X.mg "enumerate" = none) (ha : PA X [e] ta) (hs : starEach [e] X.env = [(false, eval e X.env)]) :
    PI X (.Tuple elts kk tpos) (.Call (.Name "enumerate" p) [e] [] pos) (iEnumK X.K ta) := ⟨fun pins s σ H R I h => by
  refine Call_ (ld_blt I hg hm boot_enumerate (PyProof.Rows.callWith_type1 (thn (ha.run pos pins s σ H _ I h) fun us s1 ⟨vs, H1, I1, r1, κ, a, xs, ev, hq, q⟩ => ?_) hs rfl))
  subst ev
  cases r1 with
  | cons r rr =>
  cases rr; cases r
  obtain ⟨its, rv, on, la⟩ := onK_of I1 hq
  refine call_enum1 (beginsK κ a its.toArray) on fun h' he hit hk => wpAny_pyIter_enum he ?_
  have nn : ∀ b ∈ [s1.heap.objs.size + 1, s1.heap.objs.size], s1.heap.objs.size ≤ b := fun b hb => by
    rcases mem2 hb with z | z <;> rw [z]
    · exact Nat.le_add_right ..
    · exact Nat.le_refl _
  exact ⟨s1.heap.objs.size + 1, [s1.heap.objs.size + 1, s1.heap.objs.size], _, _, H1, rfl, I1.kept (t' := s1.toks) hk, turn_enumK κ a (s1.heap.objs.size + 1) s1.heap.objs.size (Nat.succ_ne_self _) (Nat.ne_of_lt la) (Nat.ne_of_gt (Nat.lt_succ_of_lt la)), ⟨⟨.none, he⟩, itK_new hit⟩, fun b hb => I1.fpOk (nn b hb) (I1.hok.fresh (nn b hb)), q⟩⟩

/-! ### zip -/
def ItzK (K : PySem.W.Frag) (κ μ : Bool) (a b : Addr) : It :=
  ⟨fun i H => ∃ (xs ys : List V) (x y : V), SqK K κ H a xs ∧ SqK K μ H b ys ∧ xs[i]? = some x ∧ ys[i]? = some y,
   fun i H v H' => ∃ T x y, v = .ref T ∧ H T = none ∧ H' = upd H T (.tup [x, y]) ∧ (∀ xs, SqK K κ H a xs → xs[i]? = some x) ∧ ∀ ys, SqK K μ H b ys → ys[i]? = some y,
   fun i H => ∃ xs ys : List V, SqK K κ H a xs ∧ SqK K μ H b ys ∧ (xs.length ≤ i ∨ ys.length ≤ i)⟩
/-- where the parts of a zip lie: six addresses from N on, all else below -/
abbrev zpT (κ μ : Bool) (a b N : Addr) (i : Nat) (h : Heap) : Prop := IsZip h (N + 4) (N + 2) (N + 3) .none ∧ IsTupOf2 h (N + 2) (.ref N) (.ref (N + 1)) ∧ (∃ a1 a2, IsTupOf2 h (N + 3) a1 a2) ∧ ItK κ h N a i ∧ ItK μ h (N + 1) b i
theorem zp_mem {N c : Addr} (h : c ∈ [N + 4, N + 2, N + 3, N, N + 1]) : N ≤ c := by
  simp only [List.mem_cons, List.not_mem_nil, or_false] at h
  rcases h with z | z | z | z | z <;> rw [z] <;> first | exact Nat.le_add_right .. | exact Nat.le_refl _
theorem zpT.have {κ μ : Bool} {a b N : Addr} {i : Nat} {h : Heap} (st : zpT κ μ a b N i h) {c : Addr} (hc : c ∈ [N + 4, N + 2, N + 3, N, N + 1]) : ∃ o, h.get? c = some o ∧ ∀ v, o.data ≠ .cell v := by
  obtain ⟨h1, h2, ⟨x, y, h3⟩, h4, h5⟩ := st
  simp only [List.mem_cons, List.not_mem_nil, or_false] at hc
  rcases hc with z | z | z | z | z <;> rw [z]
  · exact ⟨_, h1, fun v q => nomatch q⟩
  · exact ⟨_, h2, fun v q => nomatch q⟩
  · exact ⟨_, h3, fun v q => nomatch q⟩
  · exact h4.has
  · exact h5.has
theorem zp_sub {N c : Addr} (h : c ∉ [N + 4, N + 2, N + 3, N, N + 1]) : c ∉ [N + 4, N + 3, N, N + 1] := fun z => h (by
  simp only [List.mem_cons, List.not_mem_nil, or_false] at z ⊢
  rcases z with z | z | z | z <;> simp [z])
theorem turn_zipK {P : Program} {w : World} {K : PySem.W.Frag} {elts : List Expr} {kk : Nat} {tpos : Pos} (κ μ : Bool) {a b N : Addr} (ha : a < N) (hb : b < N) :
    Turn P w K (.Tuple elts kk tpos) (ItzK K κ μ a b) [N + 4, N + 2, N + 3, N, N + 1] (N + 4) (zpT κ μ a b N) where
  mem := by simp
  obj := fun i h st c hc => st.have hc
  keep := fun i h h' ⟨h1, h2, ⟨x, y, h3⟩, h4, h5⟩ k => ⟨k _ (by simp) _ h1, k _ (by simp) _ h2, ⟨x, y, k _ (by simp) _ h3⟩, h4.at' fun o q => k _ (by simp) o q, h5.at' fun o q => k _ (by simp) o q⟩
  item := by
    intro X hP hw hK hc i pins s σ H E I hf st hg; subst hP hw hK
    obtain ⟨xs, ys, x, y, q1, q2, hx, hy⟩ := hg
    obtain ⟨its, rv, on, _⟩ := onK_of I q1
    obtain ⟨jts, rw', on', _⟩ := onK_of I q2
    obtain ⟨u, hu, ru⟩ := rv.get hx
    obtain ⟨u', hu', ru'⟩ := rw'.get hy
    have hh : X.A.in1.handled = none := I.ok.hd hc
    have W := GoesN.zip2 (elts := elts) (x1 := kk) (pos := tpos) (zip_sep2 (N := N) (fp1 := [a]) (fp2 := [b]) (by simpa using ha) (by simpa using hb)) (drawsK (P := X.prog) (w := X.w) κ hh N a (Nat.ne_of_lt ha) its.toArray) (drawsK (P := X.prog) (w := X.w) μ hh (N + 1) b (Nat.ne_of_lt (Nat.lt_succ_of_lt hb)) jts.toArray)
    have l1 := (List.getElem?_eq_some_iff.mp hu).1
    have l2 := (List.getElem?_eq_some_iff.mp hu').1
    obtain ⟨s1, s2, s3, s4, s5⟩ := st
    refine W.goes i s _ _ (by simp; omega) ⟨s1, s2, s3, ⟨s4, on⟩, s5, on'⟩ fun v h' tk ⟨T, p, r, ev, hT, hp, hr, tp⟩ st' hk htk => ?_
    subst ev
    have e1 : p = u := by
      have hp' : its[i]? = some p := by simpa using hp
      rw [hu] at hp'; cases hp'; rfl
    have e2 : r = u' := by
      have hr' : jts[i]? = some r := by simpa using hr
      rw [hu'] at hr'; cases hr'; rfl
    subst e1 e2
    obtain ⟨ot, et, ect, nt, edt⟩ := tp
    have ob : ObjOk X.prog X.w (upd H T (.tup [x, y])) h' T (.tup [x, y]) := ⟨by show 2 ≤ sizeLine; decide, [p, r], .cons ru (.cons ru' .nil), ⟨ot, et, ect, nt, edt⟩⟩
    refine ⟨.ref T, _, I.turnedNew (t' := tk) (ch := [N + 4, N + 2, N + 3, N, N + 1]) (fun c o hc e => hk c o (zp_sub hc) e) hf hT ob, rfl, ⟨T, x, y, rfl, I.hok.fresh hT, rfl, fun zs hz => by rw [sqK_inj I hz q1]; exact hx, fun zs hz => by rw [sqK_inj I hz q2]; exact hy⟩, ⟨st'.1, st'.2.1, st'.2.2.1, st'.2.2.2.1.1, st'.2.2.2.2.1⟩, fun c hc => ?_⟩
    obtain ⟨o, ho, _⟩ := zpT.have (κ := κ) (μ := μ) (a := a) (b := b) (i := i) (h := s.heap) ⟨s1, s2, s3, s4, s5⟩ hc
    rw [upd_ne (Nat.ne_of_lt (Nat.lt_of_lt_of_le (Heap.lt_size ho) hT))]
    exact (hf c hc).1
  done := by
    intro X hP hw hK hc i pins s σ H E I hf st hg; subst hP hw hK
    obtain ⟨xs, ys, q1, q2, hend⟩ := hg
    obtain ⟨its, rv, on, _⟩ := onK_of I q1
    obtain ⟨jts, rw', on', _⟩ := onK_of I q2
    have l1 := rv.length
    have l2 := rw'.length
    have hh : X.A.in1.handled = none := I.ok.hd hc
    obtain ⟨s1, s2, s3, s4, s5⟩ := st
    have sep := zip_sep2 (N := N) (fp1 := [a]) (fp2 := [b]) (by simpa using ha) (by simpa using hb)
    have fin : ∀ h' tk, (∀ c o, c ∉ [N + 4, N + 3, N, N + 1] → s.heap.get? c = some o → h'.get? c = some o) → s.toks ≤ tk → L2.Inv X pins σ H { s with heap := h', toks := tk } := fun h' tk hk _ => I.turnedL (t' := tk) (ch := [N + 4, N + 2, N + 3, N, N + 1]) (fun c o hc e => hk c o (zp_sub hc) e) hf
    by_cases c1 : xs.length ≤ i
    · have D1 := stuckK (P := X.prog) (w := X.w) κ hh N a its.toArray i (by simp; omega)
      by_cases c2 : ys.length ≤ i
      · have W := GoesN.zip2 (elts := elts) (x1 := kk) (pos := tpos) sep D1 (stuckK (P := X.prog) (w := X.w) μ hh (N + 1) b jts.toArray i (by simp; omega))
        rw [Nat.min_self] at W
        exact W.stops s _ _ ⟨s1, s2, s3, ⟨rfl, s4, on⟩, rfl, s5, on'⟩ fin
      · have W := GoesN.zip2 (elts := elts) (x1 := kk) (pos := tpos) sep D1 (drawsK (P := X.prog) (w := X.w) μ hh (N + 1) b (Nat.ne_of_lt (Nat.lt_succ_of_lt hb)) jts.toArray)
        rw [Nat.min_eq_left (by simp; omega)] at W
        exact W.stops s _ _ ⟨s1, s2, s3, ⟨rfl, s4, on⟩, s5, on'⟩ fin
    · have c2 : ys.length ≤ i := hend.elim (fun z => absurd z c1) id
      have W := GoesN.zip2 (elts := elts) (x1 := kk) (pos := tpos) sep (drawsK (P := X.prog) (w := X.w) κ hh N a (Nat.ne_of_lt ha) its.toArray) (stuckK (P := X.prog) (w := X.w) μ hh (N + 1) b jts.toArray i (by simp; omega))
      rw [Nat.min_eq_right (by simp; omega)] at W
      exact W.stops s _ _ ⟨s1, s2, s3, ⟨s4, on⟩, rfl, s5, on'⟩ fin
  self := fun A i s Q E st h => wpAny_pyIter_zip st.1 h
def iZipK (K : PySem.W.Frag) (ta : TA) : TI := fun σ H R => ta σ H fun vs H1 => ∃ κ μ a b xs ys, vs = [.ref a, .ref b] ∧ SqK K κ H1 a xs ∧ SqK K μ H1 b ys ∧ R (ItzK K κ μ a b) H1
theorem pi_zipK {X : Cx} {e e2 : Expr} {ta : TA} {p pos tpos : Pos} {elts : List Expr} {kk : Nat} (hg : Gl X "zip") (hm : X.mg "zip" = none) (ha : PA X [e, e2] ta)
    (hs : starEach [e, e2] X.env = (false, eval e X.env) :: starEach [e2] X.env) (hpl : (backTo pos (starEach [e2] X.env)).any (·.1) = false) :
    PI X (.Tuple elts kk tpos) (.Call (.Name "zip" p) [e, e2] [] pos) (iZipK X.K ta) := ⟨fun pins s σ H R I h => by
  refine Call_ (ld_blt I hg hm PyProof.Rows.boot_zip (PyProof.Rows.callWith_type1 (thn (ha.run pos pins s σ H _ I h) fun us s1 ⟨vs, H1, I1, r1, κ, μ, a, b, xs, ys, ev, q1, q2, q⟩ => ?_) hs hpl))
  subst ev
  cases r1 with
  | cons r rr =>
  cases rr with
  | cons r' rr =>
  cases rr; cases r; cases r'
  obtain ⟨its, rv, on, la⟩ := onK_of I1 q1
  obtain ⟨jts, rw', on', lb⟩ := onK_of I1 q2
  refine zip_begins2 (beginsK κ a its.toArray) (beginsK μ b jts.toArray) on on' fun h' z1 z2 z3 z4 z5 hsz hk => wpAny_pyIter_zip z1 ?_
  exact ⟨_, _, _, _, H1, rfl, I1.kept (t' := s1.toks) hk, turn_zipK κ μ la lb, ⟨z1, z2, ⟨_, _, z3⟩, itK_new z4, itK_new z5⟩, fun c hc => I1.fpOk (zp_mem hc) (I1.hok.fresh (zp_mem hc)), q⟩⟩
end PL
end
section
set_option Elab.async false
set_option linter.all false
set_option maxRecDepth 100000
set_option maxHeartbeats 4000000
set_option autoImplicit false
/-! Part h: what is walked; targets; statements, loops, comprehensions. -/
namespace PL
open PySem L2

/-! ### what is walked -/
inductive Src1 where
  | fix (xs : List D) | ref (l : Nat)
inductive Src where
  | one (s : Src1) | enum (s : Src1) | zip (s t : Src1)
/-- none: it cannot be told; some none: the end -/
def at1 (s : Src1) (i : Nat) (S : Sto) : Option (Option D) := match s with
  | .fix xs => some xs[i]?
  | .ref l => match S[l]? with
    | some (.lst xs) => some xs[i]?
    | _ => none
def itemAt (s : Src) (i : Nat) (S : Sto) : Option (Option D) := match s with
  | .one s => at1 s i S
  | .enum s => (at1 s i S).map fun o => o.map fun d => .tup [.int i, d]
  | .zip s t => match at1 s i S, at1 t i S with
    | some (some d), some (some e) => some (some (.tup [d, e]))
    | some none, some _ => some none
    | some _, some none => some none
    | _, _ => none
def srcFuel1 : Src1 → Nat
  | .fix xs => xs.length + 1
  | .ref _ => 1000000
def srcFuel : Src → Nat
  | .one s => srcFuel1 s
  | .enum s => srcFuel1 s
  | .zip s _ => srcFuel1 s
abbrev EvS := Fr → Sto → Res Src
/-- a list or tuple as a source -/
def src1Of (S : Sto) : D → Option Src1
  | .tup xs => some (.fix xs)
  | .scr xs => some (.fix xs)
  | .lst xs => some (.fix xs)
  | .ref l => match S[l]? with
    | some (.lst _) => some (.ref l)
    | _ => none
  | _ => none
def signsD (z : Str) : List D := z.cps.toList.map fun c => .str ⟨#[c]⟩
def srcOf (d : D) (S : Sto) : Res Src := match d with
  | .str z => .ok (.one (.fix (signsD z))) S
  | d => match src1Of S d with
    | some s => .ok (.one s) S
    | none => .bad
def iOf (f : Ev) : EvS := fun ρ S => (f ρ S).bind srcOf
def rangeD (lo : Int) (n : Nat) : List D := (List.range n).map fun (i : Nat) => .int (lo + (i : Int))
def small62 (i : Int) : Bool := decide (-(2 ^ 62) ≤ i ∧ i < 2 ^ 62)
def range1 (d : D) (S : Sto) : Res Src := match d with
  | .int j => if small62 j = true then .ok (.one (.fix (rangeD 0 j.toNat))) S else .bad
  | _ => .bad
def range2 (d e : D) (S : Sto) : Res Src := match d, e with
  | .int i, .int j => if small62 i = true ∧ small62 j = true then .ok (.one (.fix (rangeD i (j - i).toNat))) S else .bad
  | _, _ => .bad
def iRange1 (f : Ev) : EvS := fun ρ S => (f ρ S).bind range1
def iRange2 (f g : Ev) : EvS := fun ρ S => (f ρ S).bind fun d S1 => (g ρ S1).bind fun e S2 => range2 d e S2
def isL (S : Sto) (d : D) : Bool := match d with
  | .lst _ => true
  | .scr _ => true
  | .ref _ => true
  | _ => false
def isT : D → Bool
  | .tup _ => true
  | _ => false
def enum1 (d : D) (S : Sto) : Res Src := match src1Of S d with
  | some s => .ok (.enum s) S
  | none => .bad
def iEnum1 (f : Ev) : EvS := fun ρ S => (f ρ S).bind enum1
def zip2 (d e : D) (S : Sto) : Res Src := match src1Of S d, src1Of S e with
  | some s, some t => .ok (.zip s t) S
  | _, _ => .bad
def iZip2 (f g : Ev) : EvS := fun ρ S => (f ρ S).bind fun d S1 => (g ρ S1).bind fun e S2 => zip2 d e S2

/-- the hand layer's iterator goes as ours does -/
def SrcJ (K : PySem.W.Frag) (mg : Str → Option Value) (J : It) (s : Src) (ω0 : Om) (H0 : Hp) : Prop :=
  ∀ ω H S, Ext ω0 H0 ω H → St0 K mg ω H S → ∀ i, (itemAt s i S = some none → J.stop i H) ∧
    ∀ d, itemAt s i S = some (some d) → J.go i H ∧ ∀ x H', J.yld i H x H' → Ext ω H ω H' ∧ St0 K mg ω H' S ∧ Rep K mg ω H' d x
section
variable (K : PySem.W.Frag) (mg : Str → Option Value)
def PostI (W : WX) (ω : Om) (H : Hp) (σ : St) (r : Res Src) (R : It → Hp → Prop) : Prop :=
  match r with
  | .ok s S => ∀ J ω' H', Ext ω H ω' H' → St0 K mg ω' H' S → SrcJ K mg J s ω' H' → R J H'
  | .ex x S => PX K mg W ω H σ x S
  | .bad => False
def tDI (W : WX) (f : EvS) : TI := fun σ H R => ∃ ω ρ S, At K mg ω H σ ρ S ∧ PostI K mg W ω H σ (f ρ S) R
end
abbrev DI (X : Cx) (W : WX) (tg e : Expr) (f : EvS) : Prop := PI X tg e (tDI X.K X.mg W f)
section
variable {X : Cx} {tg e : Expr}
theorem PI.imp {t t' : TI} (h : PI X tg e t) (i : ∀ σ H R, t' σ H R → t σ H R) : PI X tg e t' := ⟨fun pins s σ H R I q => h.run pins s σ H R I (i _ _ _ q)⟩
end
section
variable {K : PySem.W.Frag} {mg : Str → Option Value} {W : WX} {ω ω1 : Om} {H H1 : Hp} {σ : St} {ρ : Fr} {S S1 : Sto}
theorem PostI.sh {r : Res Src} {R : It → Hp → Prop} (e : Ext ω H ω1 H1) (p : PostI K mg W ω H σ r R) : PostI K mg W ω1 H1 σ r R := by
  cases r with
  | ok d S => exact fun v ω' H' e' s r => p v ω' H' (e.trans e') s r
  | ex x S => exact fun c dx ω' H' e' s r => p c dx ω' H' (e.trans e') s r
  | bad => exact p
theorem tD_bindI {f : Ev} {k : D → Sto → Res Src} {Q : It → Hp → Prop} {R : VK} (a : At K mg ω H σ ρ S) (p : PostI K mg W ω H σ ((f ρ S).bind k) Q)
    (hk : ∀ d S1 v ω1 H1, Ext ω H ω1 H1 → At K mg ω1 H1 σ ρ S1 → Rep K mg ω1 H1 d v → PostI K mg W ω1 H1 σ (k d S1) Q → R v H1) : tD K mg W f σ H R :=
  tD_go a (fun d S1 q v ω1 H1 e a1 r => hk d S1 v ω1 H1 e a1 r (by rw [q] at p; exact p.sh e)) (fun x S1 q => by rw [q] at p; exact p) fun q => by rw [q] at p; exact p
theorem tDA_bindI {f : EvL} {k : List D → Sto → Res Src} {Q : It → Hp → Prop} {R : List V → Hp → Prop} (a : At K mg ω H σ ρ S) (p : PostI K mg W ω H σ ((f ρ S).bind k) Q)
    (hk : ∀ d S1 v ω1 H1, Ext ω H ω1 H1 → At K mg ω1 H1 σ ρ S1 → Reps K mg ω1 H1 d v → PostI K mg W ω1 H1 σ (k d S1) Q → R v H1) : tDA K mg W f σ H R :=
  tDA_go a (fun d S1 q v ω1 H1 e a1 r => hk d S1 v ω1 H1 e a1 r (by rw [q] at p; exact p.sh e)) (fun x S1 q => by rw [q] at p; exact p) fun q => by rw [q] at p; exact p

/-- what a base source is worth at an address -/
def SqJ (K : PySem.W.Frag) (mg : Str → Option Value) (s : Src1) (sq : Hp → List V → Prop) (ω0 : Om) (H0 : Hp) : Prop :=
  ∀ ω H S, Ext ω0 H0 ω H → St0 K mg ω H S → ∀ i o, at1 s i S = some o → ∃ (xs : List D) (vs : List V), sq H vs ∧ Reps K mg ω H xs vs ∧ o = xs[i]?
theorem sqJ_fix {xs : List D} {vs : List V} {sq : Hp → List V → Prop} (k : Ok ω H) (r : Reps K mg ω H xs vs) (h : ∀ ω' H', Ext ω H ω' H' → sq H' vs) : SqJ K mg (.fix xs) sq ω H := by
  intro ω' H' S' e s i o ho
  cases ho
  exact ⟨xs, vs, h ω' H' e, r.keep k e, rfl⟩
theorem sqJ_ref {l : Nat} {a : Addr} (h : ω.at_[l]? = some a) : SqJ K mg (.ref l) (fun H vs => SqL K H a vs) ω H := by
  intro ω' H' S' e s i o ho
  unfold at1 at ho
  simp only at ho
  split at ho
  · rename_i xs hx
    cases ho
    obtain ⟨q, hq, r⟩ := s.obs _ _ _ hx (e.get h)
    cases r with
    | lst r => exact ⟨xs, _, SqL.of hq, r, rfl⟩
  · cases ho
/-- a value that is walked -/
theorem src1_rep {d : D} {v : V} {s : Src1} (st : St0 K mg ω H S) (h : src1Of S d = some s) (r : Rep K mg ω H d v) : ∃ a, v = .ref a ∧
    ((isL S d = true ∧ (∃ vs, SqL K H a vs) ∧ SqJ K mg s (fun H vs => SqL K H a vs) ω H) ∨ (isT d = true ∧ (∃ vs, SqT K H a vs) ∧ SqJ K mg s (fun H vs => SqT K H a vs) ω H)) := by
  cases d <;> simp only [src1Of] at h <;> try cases h
  · cases r with
    | tup hq r => exact ⟨_, rfl, .inr ⟨rfl, ⟨_, SqT.of hq⟩, sqJ_fix st.ok r fun ω' H' e => SqT.of (tup_keep st.ok e hq)⟩⟩
  · cases r with
    | lst hq r => exact ⟨_, rfl, .inl ⟨rfl, ⟨_, SqL.of hq.lst⟩, sqJ_fix st.ok r fun ω' H' e => SqL.of (hq.keep st.ok e).lst⟩⟩
  · cases r with
    | scr hq r =>
      exact ⟨_, rfl, .inl ⟨rfl, ⟨_, hq.sq⟩, sqJ_fix st.ok r fun ω' H' e => (scr_keep st.ok e hq).sq⟩⟩
  · split at h
    · rename_i l xs hl
      cases h
      cases r with
      | ref hr =>
        obtain ⟨q, hq, r⟩ := st.obs _ _ _ hl hr
        cases r with
        | lst r => exact ⟨_, rfl, .inl ⟨rfl, ⟨_, SqL.of hq⟩, sqJ_ref hr⟩⟩
    · cases h
theorem srcJ_list {s : Src1} {a : Addr} (h : SqJ K mg s (fun H vs => SqL K H a vs) ω H) : SrcJ K mg (Itl K a) (.one s) ω H := by
  intro ω' H' S' e st i
  refine ⟨fun z => ?_, fun d z => ?_⟩
  · obtain ⟨xs, vs, hq, r, ho⟩ := h ω' H' S' e st i _ z
    refine ⟨vs, hq, ?_⟩
    rw [← r.length]
    exact List.getElem?_eq_none_iff.mp ho.symm
  · obtain ⟨xs, vs, hq, r, ho⟩ := h ω' H' S' e st i _ z
    obtain ⟨v, hv, rv⟩ := r.get ho.symm
    refine ⟨⟨vs, v, hq, hv⟩, fun x H2 y => ?_⟩
    obtain ⟨rfl, y⟩ := y
    have := y vs hq
    rw [hv] at this
    cases this
    exact ⟨Ext.refl, st, rv⟩
theorem srcJ_tup {s : Src1} {a : Addr} (h : SqJ K mg s (fun H vs => SqT K H a vs) ω H) : SrcJ K mg (Itt K a) (.one s) ω H := by
  intro ω' H' S' e st i
  refine ⟨fun z => ?_, fun d z => ?_⟩
  · obtain ⟨xs, vs, hq, r, ho⟩ := h ω' H' S' e st i _ z
    refine ⟨vs, hq, ?_⟩
    rw [← r.length]
    exact List.getElem?_eq_none_iff.mp ho.symm
  · obtain ⟨xs, vs, hq, r, ho⟩ := h ω' H' S' e st i _ z
    obtain ⟨v, hv, rv⟩ := r.get ho.symm
    refine ⟨⟨vs, v, hq, hv⟩, fun x H2 y => ?_⟩
    obtain ⟨rfl, y⟩ := y
    have := y vs hq
    rw [hv] at this
    cases this
    exact ⟨Ext.refl, st, rv⟩
theorem srcJ_range {lo : Int} {n : Nat} : SrcJ K mg (Itr lo n) (.one (.fix (rangeD lo n))) ω H := by
  intro ω' H' S' e st i
  simp only [itemAt, at1, rangeD, List.getElem?_map]
  refine ⟨fun z => ?_, fun d z => ?_⟩
  · by_cases hi : i < n
    · simp [hi] at z
    · exact Nat.le_of_not_lt hi
  · by_cases hi : i < n
    · simp [hi] at z
      refine ⟨hi, fun x H2 y => ?_⟩
      obtain ⟨rfl, rfl⟩ := y
      subst z
      exact ⟨Ext.refl, st, .int _⟩
    · simp [hi] at z
theorem srcJ_str {z : Str} : SrcJ K mg (Its z) (.one (.fix (signsD z))) ω H := by
  intro ω' H' S' e st i
  simp only [itemAt, at1, signsD, List.getElem?_map]
  refine ⟨fun q => ?_, fun d q => ?_⟩
  · by_cases hi : i < z.cps.size
    · simp [hi] at q
    · exact Nat.le_of_not_lt hi
  · by_cases hi : i < z.cps.size
    · simp [hi] at q
      refine ⟨hi, fun x H2 y => ?_⟩
      obtain ⟨rfl, c, hc, rfl⟩ := y
      rw [Array.getElem?_eq_getElem hi] at hc
      cases hc
      subst q
      exact ⟨Ext.refl, st, .str _⟩
    · simp [hi] at q
theorem new_pair {ω : Om} {H : Hp} {S : Sto} {T : Addr} {d e : D} {x y : V} (st : St0 K mg ω H S) (n : H T = none) (r1 : Rep K mg ω H d x) (r2 : Rep K mg ω H e y) :
    Ext ω H ω (upd H T (.tup [x, y])) ∧ St0 K mg ω (upd H T (.tup [x, y])) S ∧ Rep K mg ω (upd H T (.tup [x, y])) (.tup [d, e]) (.ref T) :=
  ⟨ext_new n, st_new st n, .tup upd_same (.cons (r1.keep st.ok (ext_new n)) (.cons (r2.keep st.ok (ext_new n)) .nil))⟩
theorem src1_repK {d : D} {v : V} {s : Src1} (st : St0 K mg ω H S) (h : src1Of S d = some s) (r : Rep K mg ω H d v) : ∃ κ a vs, v = .ref a ∧ SqK K κ H a vs ∧ SqJ K mg s (fun H vs => SqK K κ H a vs) ω H := by
  obtain ⟨a, rfl, ⟨_, ⟨vs, z1⟩, z2⟩ | ⟨_, ⟨vs, z1⟩, z2⟩⟩ := src1_rep st h r
  · exact ⟨true, a, vs, rfl, z1, z2⟩
  · exact ⟨false, a, vs, rfl, z1, z2⟩
theorem srcJ_enum {s : Src1} {a : Addr} {κ : Bool} (h : SqJ K mg s (fun H vs => SqK K κ H a vs) ω H) : SrcJ K mg (IteK K κ a) (.enum s) ω H := by
  intro ω' H' S' e st i
  simp only [itemAt]
  refine ⟨fun z => ?_, fun d z => ?_⟩
  · simp only [Option.map_eq_some_iff] at z
    obtain ⟨o, z, hz⟩ := z
    obtain ⟨xs, vs, hq, r, ho⟩ := h ω' H' S' e st i _ z
    refine ⟨vs, hq, ?_⟩
    rw [← r.length]
    cases o with
    | none => exact List.getElem?_eq_none_iff.mp ho.symm
    | some d => simp at hz
  · simp only [Option.map_eq_some_iff] at z
    obtain ⟨o, z, hz⟩ := z
    obtain ⟨xs, vs, hq, r, ho⟩ := h ω' H' S' e st i _ z
    cases o with
    | none => simp at hz
    | some d' =>
      simp at hz
      subst hz
      obtain ⟨v, hv, rv⟩ := r.get ho.symm
      refine ⟨⟨vs, v, hq, hv⟩, fun x H2 y => ?_⟩
      obtain ⟨T, w', rfl, hn, rfl, y⟩ := y
      have := y vs hq
      rw [hv] at this
      cases this
      exact new_pair st hn (.int _) rv
theorem srcJ_zip {s t : Src1} {sq sq' : Hp → List V → Prop} {J : It} (h : SqJ K mg s sq ω H) (h' : SqJ K mg t sq' ω H)
    (hg : ∀ i H xs ys x y, sq H xs → sq' H ys → xs[i]? = some x → ys[i]? = some y → J.go i H) (hs : ∀ i H xs ys, sq H xs → sq' H ys → xs.length ≤ i ∨ ys.length ≤ i → J.stop i H)
    (hy : ∀ i H v H', J.yld i H v H' → ∃ T x y, v = .ref T ∧ H T = none ∧ H' = upd H T (.tup [x, y]) ∧ (∀ xs, sq H xs → xs[i]? = some x) ∧ ∀ ys, sq' H ys → ys[i]? = some y) : SrcJ K mg J (.zip s t) ω H := by
  intro ω' H' S' e st i
  simp only [itemAt]
  refine ⟨fun z => ?_, fun d z => ?_⟩
  · split at z <;> try cases z
    · rename_i o h1 h2
      obtain ⟨xs, vs, hq, r, ho⟩ := h ω' H' S' e st i _ h1
      obtain ⟨ys, ws, hq', r', ho'⟩ := h' ω' H' S' e st i _ h2
      refine hs i H' vs ws hq hq' (.inl ?_)
      rw [← r.length]
      exact List.getElem?_eq_none_iff.mp ho.symm
    · rename_i o _ h1 h2
      obtain ⟨xs, vs, hq, r, ho⟩ := h ω' H' S' e st i _ h1
      obtain ⟨ys, ws, hq', r', ho'⟩ := h' ω' H' S' e st i _ h2
      refine hs i H' vs ws hq hq' (.inr ?_)
      rw [← r'.length]
      exact List.getElem?_eq_none_iff.mp ho'.symm
  · split at z <;> try cases z
    rename_i d1 d2 h1 h2
    obtain ⟨xs, vs, hq, r, ho⟩ := h ω' H' S' e st i _ h1
    obtain ⟨ys, ws, hq', r', ho'⟩ := h' ω' H' S' e st i _ h2
    obtain ⟨v, hv, rv⟩ := r.get ho.symm
    obtain ⟨w', hw, rw'⟩ := r'.get ho'.symm
    refine ⟨hg i H' vs ws v w' hq hq' hv hw, fun x H2 y => ?_⟩
    obtain ⟨T, x1, y1, rfl, hn, rfl, e1, e2⟩ := hy i H' x H2 y
    have z1 := e1 vs hq
    have z2 := e2 ws hq'
    rw [hv] at z1
    rw [hw] at z2
    cases z1; cases z2
    exact new_pair st hn rv rw'
end
section
variable {X : Cx} {W : WX} {tg e e2 : Expr} {f : Ev} {F : EvL} {p pos : Pos}
/-- a list, a tuple, a text: one of the three, as its value is -/
theorem di_of (he : DE X W e f) : DI X W tg e (iOf f) := by
  have h1 := pi_list (tg := tg) he
  have h2 := pi_tup (tg := tg) he
  have h3 := pi_str (tg := tg) he
  refine ⟨fun pins s σ H R I ⟨ω, ρ, S, at_, q⟩ => ?_⟩
  unfold iOf at q
  cases hf : f ρ S with
  | ex x S1 =>
    rw [hf] at q
    refine h1.run pins s σ H R I ?_
    exact tD_go at_ (fun d S1 z => by rw [hf] at z; cases z) (fun x S1 z => by rw [hf] at z; cases z; exact q) fun z => by rw [hf] at z; cases z
  | bad => rw [hf] at q; exact q.elim
  | ok d S1 =>
    rw [hf] at q
    change PostI X.K X.mg W ω H σ (srcOf d S1) R at q
    have go : ∀ {Rr : VK}, (∀ v ω1 H1, Ext ω H ω1 H1 → At X.K X.mg ω1 H1 σ ρ S1 → Rep X.K X.mg ω1 H1 d v → Rr v H1) → tD X.K X.mg W f σ H Rr := fun {Rr} k =>
      tD_go at_ (fun d' S' z v ω1 H1 e a r => by rw [hf] at z; cases z; exact k v ω1 H1 e a r) (fun x S1 z => by rw [hf] at z; cases z) fun z => by rw [hf] at z; cases z
    unfold srcOf at q
    split at q
    · refine h3.run pins s σ H R I (go fun v ω1 H1 e1 a1 r1 => ?_)
      cases r1
      exact ⟨_, rfl, q _ ω1 H1 e1 a1.st srcJ_str⟩
    · split at q
      · rename_i s1 hs
        have hk : isL S1 d = true ∨ isT d = true := by
          cases d <;> first | exact .inl rfl | exact .inr rfl | (simp [src1Of] at hs)
        rcases hk with hk | hk
        · refine h1.run pins s σ H R I (go fun v ω1 H1 e1 a1 r1 => ?_)
          obtain ⟨a, rfl, ⟨_, z1, z2⟩ | ⟨z, _⟩⟩ := src1_rep a1.st hs r1
          · exact ⟨a, rfl, z1, q _ ω1 H1 e1 a1.st (srcJ_list z2)⟩
          · cases d <;> simp [isL, isT] at hk z
        · refine h2.run pins s σ H R I (go fun v ω1 H1 e1 a1 r1 => ?_)
          obtain ⟨a, rfl, ⟨z, _⟩ | ⟨_, z1, z2⟩⟩ := src1_rep a1.st hs r1
          · cases d <;> simp [isL, isT] at hk z
          · exact ⟨a, rfl, z1, q _ ω1 H1 e1 a1.st (srcJ_tup z2)⟩
      · exact q.elim
theorem small62_ok {i : Int} (h : small62 i = true) : -(2 ^ 62) ≤ i ∧ i < 2 ^ 62 := of_decide_eq_true h
theorem bind1 {α : Type} {f : Ev} {k : List D → Sto → Res α} {ρ : Fr} {S : Sto} : ((aCons f aNil) ρ S).bind k = (f ρ S).bind fun d S1 => k [d] S1 := by
  unfold aCons aNil
  cases f ρ S <;> rfl
theorem bind2 {α : Type} {f g : Ev} {k : List D → Sto → Res α} {ρ : Fr} {S : Sto} : ((aCons f (aCons g aNil)) ρ S).bind k = (f ρ S).bind fun d S1 => (g ρ S1).bind fun e S2 => k [d, e] S2 := by
  unfold aCons aNil
  cases f ρ S with
  | ok d S1 => simp only [Res.bind]; cases g ρ S1 <;> rfl
  | ex x S1 => rfl
  | bad => rfl
def one {α : Type} (k : D → Sto → Res α) (ds : List D) (S : Sto) : Res α := match ds with
  | [d] => k d S
  | _ => .bad
def two {α : Type} (k : D → D → Sto → Res α) (ds : List D) (S : Sto) : Res α := match ds with
  | [d, e] => k d e S
  | _ => .bad
variable {g : Ev}
theorem one_bad {α : Type} {k : D → Sto → Res α} {ds : List D} {S : Sto} {P : Res α → Prop} (hb : ¬ P .bad) (p : P (one k ds S)) : ∃ d, ds = [d] ∧ P (k d S) := by
  unfold one at p
  split at p
  · exact ⟨_, rfl, p⟩
  · exact absurd p hb
theorem two_bad {α : Type} {k : D → D → Sto → Res α} {ds : List D} {S : Sto} {P : Res α → Prop} (hb : ¬ P .bad) (p : P (two k ds S)) : ∃ d e, ds = [d, e] ∧ P (k d e S) := by
  unfold two at p
  split at p
  · exact ⟨_, _, rfl, p⟩
  · exact absurd p hb
/-- an iterable of one argument, of two -/
theorem di_one {k : D → Sto → Res Src} {t : TA → TI} (h : ∀ {ta : TA}, PA X [e] ta → PI X tg e2 (t ta)) (ha : DE X W e f) (hs : starEach [e] X.env = [(false, eval e X.env)])
    (hr : ∀ σ H R F, (tDA X.K X.mg W F σ H fun vs H1 => ∃ ω d v S, vs = [v] ∧ St0 X.K X.mg ω H1 S ∧ Rep X.K X.mg ω H1 d v ∧ PostI X.K X.mg W ω H1 σ (k d S) R) → t (tDA X.K X.mg W F) σ H R) : DI X W tg e2 (fun ρ S => (f ρ S).bind k) :=
  PI.imp (h (da_cons ha da_nil hs)) fun σ H R ⟨ω, ρ, S, at_, q⟩ => by
    refine hr σ H R _ ?_
    have q' : PostI X.K X.mg W ω H σ (((aCons f aNil) ρ S).bind (one k)) R := by rw [bind1]; exact q
    refine tDA_bindI at_ q' fun ds S1 vs ω1 H1 e1 a1 r1 q1 => ?_
    obtain ⟨d, rfl, q2⟩ := one_bad (P := fun z => PostI X.K X.mg W ω1 H1 σ z R) (fun z => z) q1
    cases r1 with
    | cons r rr => cases rr; exact ⟨ω1, d, _, S1, rfl, a1.st, r, q2⟩
theorem di_two {e' : Expr} {k : D → D → Sto → Res Src} {t : TA → TI} (h : ∀ {ta : TA}, PA X [e, e'] ta → PI X tg e2 (t ta)) (ha : DE X W e f) (hb : DE X W e' g) (hs : starEach [e, e'] X.env = (false, eval e X.env) :: starEach [e'] X.env) (hs' : starEach [e'] X.env = [(false, eval e' X.env)])
    (hr : ∀ σ H R F, (tDA X.K X.mg W F σ H fun vs H1 => ∃ ω d d' v v' S, vs = [v, v'] ∧ St0 X.K X.mg ω H1 S ∧ Rep X.K X.mg ω H1 d v ∧ Rep X.K X.mg ω H1 d' v' ∧ PostI X.K X.mg W ω H1 σ (k d d' S) R) → t (tDA X.K X.mg W F) σ H R) : DI X W tg e2 (fun ρ S => (f ρ S).bind fun d S1 => (g ρ S1).bind fun e S2 => k d e S2) :=
  PI.imp (h (da_cons ha (da_cons hb da_nil hs') hs)) fun σ H R ⟨ω, ρ, S, at_, q⟩ => by
    refine hr σ H R _ ?_
    have q' : PostI X.K X.mg W ω H σ (((aCons f (aCons g aNil)) ρ S).bind (two k)) R := by rw [bind2]; exact q
    refine tDA_bindI at_ q' fun ds S1 vs ω1 H1 e1 a1 r1 q1 => ?_
    obtain ⟨d, d', rfl, q2⟩ := two_bad (P := fun z => PostI X.K X.mg W ω1 H1 σ z R) (fun z => z) q1
    cases r1 with
    | cons r rr => cases rr with
      | cons r' rr => cases rr; exact ⟨ω1, d, d', _, _, S1, rfl, a1.st, r, r', q2⟩
theorem TA.imp_rd {K : PySem.W.Frag} {mg : Str → Option Value} {F : EvL} {σ : St} {H : Hp} {R R' : List V → Hp → Prop} (h : tDA K mg W F σ H R) (i : ∀ vs H, R vs H → R' vs H) : tDA K mg W F σ H R' := by
  obtain ⟨ω, ρ, S, a, p⟩ := h
  refine ⟨ω, ρ, S, a, ?_⟩
  unfold PostA at p ⊢
  split at p
  · exact fun vs ω' H' e s r => i _ _ (p vs ω' H' e s r)
  · exact p
  · exact p
theorem di_range1 {a : Expr} (hg : Gl X "range") (hm : X.mg "range" = none) (ha : DE X W a f) (hs : starEach [a] X.env = [(false, eval a X.env)]) : DI X W tg (.Call (.Name "range" p) [a] [] pos) (iRange1 f) :=
  di_one (t := iRng1) (fun h => pi_range1 hg hm h hs) ha hs fun σ H R F h => TA.imp_rd h fun vs H1 ⟨ω, d, v, S, ev, st, r, q⟩ => by
    subst ev
    unfold range1 at q
    split at q
    · split at q
      · rename_i j hj
        cases r
        obtain ⟨z1, z2⟩ := small62_ok hj
        exact ⟨_, rfl, z1, z2, q _ ω H1 Ext.refl st srcJ_range⟩
      · exact q.elim
    · exact q.elim
theorem di_range2 {a b : Expr} (hg : Gl X "range") (hm : X.mg "range" = none) (ha : DE X W a f) (hb : DE X W b g) (hs : starEach [a, b] X.env = (false, eval a X.env) :: starEach [b] X.env) (hs' : starEach [b] X.env = [(false, eval b X.env)]) : DI X W tg (.Call (.Name "range" p) [a, b] [] pos) (iRange2 f g) :=
  di_two (t := iRng2) (fun h => pi_range2 hg hm h (by rw [hs, hs']) hs') ha hb hs hs' fun σ H R F h => TA.imp_rd h fun vs H1 ⟨ω, d, d', v, v', S, ev, st, r, r', q⟩ => by
    subst ev
    unfold range2 at q
    split at q
    · split at q
      · rename_i i j hij
        cases r; cases r'
        obtain ⟨z1, z2⟩ := small62_ok hij.1
        obtain ⟨z3, z4⟩ := small62_ok hij.2
        exact ⟨_, _, rfl, ⟨z1, z2, z3, z4⟩, q _ ω H1 Ext.refl st srcJ_range⟩
      · exact q.elim
    · exact q.elim
theorem di_enum {a : Expr} {elts : List Expr} {kk : Nat} {tpos : Pos} (hg : Gl X "enumerate") (hm : X.mg "enumerate" = none) (ha : DE X W a f) (hs : starEach [a] X.env = [(false, eval a X.env)]) : DI X W (.Tuple elts kk tpos) (.Call (.Name "enumerate" p) [a] [] pos) (iEnum1 f) :=
  di_one (t := iEnumK X.K) (fun h => pi_enumK hg hm h hs) ha hs fun σ H R F h => TA.imp_rd h fun vs H1 ⟨ω, d, v, S, ev, st, r, q⟩ => by
    subst ev
    unfold enum1 at q
    split at q
    · rename_i s hs
      obtain ⟨κ, a, ws, rfl, z1, z2⟩ := src1_repK st hs r
      exact ⟨κ, a, ws, rfl, z1, q _ ω H1 Ext.refl st (srcJ_enum z2)⟩
    · exact q.elim
theorem di_zip {a b : Expr} {elts : List Expr} {kk : Nat} {tpos : Pos} (hg : Gl X "zip") (hm : X.mg "zip" = none) (ha : DE X W a f) (hb : DE X W b g) (hs : starEach [a, b] X.env = (false, eval a X.env) :: starEach [b] X.env) (hs' : starEach [b] X.env = [(false, eval b X.env)]) (hpl : (backTo pos (starEach [b] X.env)).any (·.1) = false) :
    DI X W (.Tuple elts kk tpos) (.Call (.Name "zip" p) [a, b] [] pos) (iZip2 f g) :=
  di_two (t := iZipK X.K) (fun h => pi_zipK hg hm h hs hpl) ha hb hs hs' fun σ H R F h => TA.imp_rd h fun vs H1 ⟨ω, d, d', v, v', S, ev, st, r, r', q⟩ => by
    subst ev
    unfold zip2 at q
    split at q
    · rename_i s t h1 h2
      obtain ⟨κ, a, ws, rfl, z1, z2⟩ := src1_repK st h1 r
      obtain ⟨μ, b, us, rfl, y1, y2⟩ := src1_repK st h2 r'
      exact ⟨κ, μ, a, b, ws, us, rfl, z1, y1, q _ ω H1 Ext.refl st (srcJ_zip z2 y2 (fun i H xs ys x y h1 h2 h3 h4 => ⟨xs, ys, x, y, h1, h2, h3, h4⟩) (fun i H xs ys h1 h2 h3 => ⟨xs, ys, h1, h2, h3⟩) fun i H v H' y => y)⟩
    · exact q.elim
end
end PL
end
section
set_option Elab.async false
set_option linter.all false
set_option maxRecDepth 100000
set_option maxHeartbeats 4000000
set_option autoImplicit false
/-! Part i: targets, statements, loops. -/
namespace PL
open PySem L2

/-! ### targets -/
inductive Tg where
  | nm (i : Nat) | tp (ts : List Tg)
mutual
def setT : Tg → D → Fr → Option Fr
  | .nm i, d, ρ => some (ρ.set i (some d))
  | .tp ts, .tup xs, ρ => setTs ts xs ρ
  | .tp _, _, _ => none
def setTs : List Tg → List D → Fr → Option Fr
  | [], [], ρ => some ρ
  | t :: ts, x :: xs, ρ => match setT t x ρ with
    | some ρ1 => setTs ts xs ρ1
    | none => none
  | _, _, _ => none
end
mutual
def slots : Tg → List Nat
  | .nm i => [i]
  | .tp ts => slotsL ts
def slotsL : List Tg → List Nat
  | [] => []
  | t :: ts => slots t ++ slotsL ts
end
theorem wipe_set {σ : St} {i : Nat} {x : Option V} : ∀ {vs : List Nat}, i ∈ vs → wipe (σ.set i x) vs = wipe σ vs
  | [], h => by simp at h
  | v :: vs, h => by
    unfold wipe
    by_cases hi : i ∈ vs
    · rw [wipe_set hi]
    · have e : i = v := by simpa [hi] using h
      subst e
      have go : ∀ ws : List Nat, (wipe (σ.set i x) ws).set i none = (wipe σ ws).set i none := fun ws => by
        induction ws with
        | nil => simp [wipe]
        | cons w ws ih =>
          unfold wipe
          by_cases hw : w = i
          · subst hw; simp only [List.set_set]; exact ih
          · rw [List.set_comm _ _ hw, ih, List.set_comm _ _ (Ne.symm hw)]
      exact go vs
theorem wipe_wipe {σ : St} : ∀ {vs ws : List Nat}, (∀ v ∈ vs, v ∈ ws) → wipe (wipe σ vs) ws = wipe σ ws
  | [], ws, _ => rfl
  | v :: vs, ws, h => by
    show wipe ((wipe σ vs).set v none) ws = _
    rw [wipe_set (h v (by simp)), wipe_wipe fun u hu => h u (by simp [hu])]
def wipeR (ρ : Fr) : List Nat → Fr
  | [] => ρ
  | v :: vs => (wipeR ρ vs).set v none
section
variable (K : PySem.W.Frag) (mg : Str → Option Value)
def tDG (T : Tg) : TG := fun v σ H Q => ∃ ω d ρ S ρ', At K mg ω H σ ρ S ∧ Rep K mg ω H d v ∧ setT T d ρ = some ρ' ∧ ∀ σ', FrR K mg ω H ρ' σ' → (∀ vs, (∀ i ∈ slots T, i ∈ vs) → wipe σ' vs = wipe σ vs) → Q σ' H
def tDGs (Ts : List Tg) : TGs := fun v σ H Q => ∃ ω d ρ S ρ', At K mg ω H σ ρ S ∧ Reps K mg ω H d v ∧ setTs Ts d ρ = some ρ' ∧ ∀ σ', FrR K mg ω H ρ' σ' → (∀ vs, (∀ i ∈ slotsL Ts, i ∈ vs) → wipe σ' vs = wipe σ vs) → Q σ' H
end
theorem FrR.wipe {K : PySem.W.Frag} {mg : Str → Option Value} {ω : Om} {H : Hp} {ρ : Fr} {σ : St} (h : FrR K mg ω H ρ σ) : ∀ vs : List Nat, FrR K mg ω H (wipeR ρ vs) (L2.wipe σ vs)
  | [] => h
  | v :: vs => FrR.setNone (FrR.wipe h vs)
section
variable {X : Cx} {pos : Pos}
theorem PG.imp {tg : Expr} {t t' : TG} (h : PG X tg t) (i : ∀ v σ H Q, t' v σ H Q → t v σ H Q) : PG X tg t' := ⟨fun pins s σ H v u Q I r q => h.run pins s σ H v u Q I r (i _ _ _ _ q)⟩
theorem PGs.imp {tg : List Expr} {t t' : TGs} (h : PGs X tg t) (i : ∀ v σ H Q, t' v σ H Q → t v σ H Q) : PGs X tg t' := ⟨fun pins s σ H v u Q I r q => h.run pins s σ H v u Q I r (i _ _ _ _ q)⟩
abbrev DG (X : Cx) (tg : Expr) (T : Tg) : Prop := PG X tg (tDG X.K X.mg T)
abbrev DGs (X : Cx) (tg : List Expr) (T : List Tg) : Prop := PGs X tg (tDGs X.K X.mg T)
theorem dg_name {i : Nat} {x : Str} (hN : X.N.Nodup) (hi : X.N[i]? = some x) (hx : Loc X.env.scope x) (hf : X.fn x = true ∨ X.env.scope.names.lookup x = some .local) : DG X (.Name x pos) (.nm i) :=
  PG.imp (pg_name hN hi hx hf) fun v σ H Q ⟨ω, d, ρ, S, ρ', a, r, e, q⟩ => by
    simp only [setT, Option.some.injEq] at e
    subst e
    exact q _ (a.fr.set r) fun vs h => wipe_set (h i (by simp [slots]))
theorem dgs_nil : DGs X [] [] := PGs.imp pgs_nil fun v σ H Q ⟨ω, d, ρ, S, ρ', a, r, e, q⟩ => by
  cases r with
  | nil =>
    simp only [setTs, Option.some.injEq] at e
    subst e
    exact ⟨rfl, q _ a.fr fun _ _ => rfl⟩
  | cons _ _ => simp [setTs] at e
theorem dgs_cons {e : Expr} {es : List Expr} {t : Tg} {u : List Tg} (h1 : DG X e t) (h2 : DGs X es u)
    (hs : (assignEach (e :: es) X.env).map (·.2) = assign e X.env :: (assignEach es X.env).map (·.2)) : DGs X (e :: es) (t :: u) :=
  PGs.imp (pgs_cons h1 h2 hs) fun v σ H Q ⟨ω, d, ρ, S, ρ', a, r, e, q⟩ => by
    cases r with
    | nil => simp [setTs] at e
    | cons r rr =>
      simp only [setTs] at e
      split at e
      · rename_i ρ1 h1
        refine ⟨_, _, rfl, ω, _, ρ, S, ρ1, a, r, h1, fun σ1 f1 w1 => ?_⟩
        refine ⟨ω, _, ρ1, S, ρ', ⟨a.st, f1⟩, rr, e, fun σ2 f2 w2 => q σ2 f2 fun vs hv => ?_⟩
        rw [w2 vs fun i hi => hv i (by simp [slotsL, hi]), w1 vs fun i hi => hv i (by simp [slotsL, hi])]
      · cases e
theorem setTs_len : ∀ {ts : List Tg} {xs : List D} {ρ ρ' : Fr}, setTs ts xs ρ = some ρ' → xs.length = ts.length
  | [], [], _, _, _ => rfl
  | [], _ :: _, _, _, h => by simp [setTs] at h
  | _ :: _, [], _, _, h => by simp [setTs] at h
  | t :: ts, x :: xs, ρ, ρ', h => by
    simp only [setTs] at h
    split at h
    · simp [setTs_len h]
    · cases h
theorem dg_tup {es : List Expr} {k n : Nat} {Ts : List Tg} (hc : X.calm = true) (h : DGs X es Ts) (hn : (assignEach es X.env).length = n) (hl : Ts.length = n) (hst : (assignEach es X.env).findIdx? (·.1) = none) : DG X (.Tuple es k pos) (.tp Ts) :=
  PG.imp (pg_tup hc h hn hst) fun v σ H Q ⟨ω, d, ρ, S, ρ', a, r, e, q⟩ => by
    cases d <;> simp only [setT] at e <;> try cases e
    cases r with
    | tup hq rr =>
      refine ⟨_, _, rfl, SqT.of hq, by rw [← rr.length, setTs_len e, hl], ω, _, ρ, S, ρ', a, rr, e, fun σ' f w => q σ' f fun vs hv => w vs fun i hi => hv i (by simpa [slots] using hi)⟩
end

/-! ### statements -/
def sNext : St' := fun ρ S => .nx ρ S
def sSeq (a b : St') : St' := fun ρ S => match a ρ S with
  | .nx ρ1 S1 => b ρ1 S1
  | r => r
def sBrk : St' := fun ρ S => .bk ρ S
def sCont : St' := fun ρ S => .ct ρ S
def sRet (f : Ev) : St' := fun ρ S => (f ρ S).thenS ρ fun d S1 => .rt d S1
def sRetN : St' := fun _ S => .rt .non S
def sBad : St' := fun _ _ => .bad
def sExpr (f : Ev) : St' := fun ρ S => (f ρ S).thenS ρ fun _ S1 => .nx ρ S1
def sIf (c : EvB) (a b : St') : St' := fun ρ S => (c ρ S).thenS ρ fun t S1 => if t = true then a ρ S1 else b ρ S1
def orBad : Option Fr → (Fr → Fl) → Fl
  | some ρ, k => k ρ
  | none, _ => .bad
def sSet (T : Tg) (f : Ev) : St' := fun ρ S => (f ρ S).thenS ρ fun d S1 => orBad (setT T d ρ) fun ρ1 => .nx ρ1 S1
def sPar (i j : Nat) (F : EvL) : St' := fun ρ S => (F ρ S).thenS ρ fun ds S1 => match ds with
  | [d, e] => .nx ((ρ.set i (some d)).set j (some e)) S1
  | _ => .bad
section
variable {X : Cx} {W : WX} {pos : Pos} {e c : Expr} {f : Ev} {st : Stmt} {rest p q : List Stmt} {t u : St'}
theorem ds_fin {D : Ends} {ω : Om} {H : Hp} {σ : St} {ρ : Fr} {S : Sto} (a : At X.K X.mg ω H σ ρ S) (h : PostS X.K X.mg W ω H (.nx ρ S) D) : D.nx σ H := h σ ω H Ext.refl a.st a.fr
theorem db_nil : DB X W [] sNext := PSs.imp pss_nil fun D σ H ⟨ω, ρ, S, a, h⟩ => ds_fin a h
theorem db_cons (h1 : DS X W st t) (h2 : DB X W rest u) : DB X W (st :: rest) (sSeq t u) :=
  PSs.imp (pss_cons h1 h2) fun D σ H ⟨ω, ρ, S, a, h⟩ => by
    refine ⟨ω, ρ, S, a, ?_⟩
    have go : ∀ r : Fl, t ρ S = r → PostS X.K X.mg W ω H r { D with nx := tDS X.K X.mg W u D } := fun r hr => by
      unfold sSeq at h
      rw [hr] at h
      cases r with
      | nx ρ1 S1 => exact fun σ1 ω1 H1 e1 s1 f1 => ⟨ω1, ρ1, S1, ⟨s1, f1⟩, PostS.sh e1 h⟩
      | rt d S1 => exact h
      | bk ρ1 S1 => exact h
      | ct ρ1 S1 => exact h
      | ex x ρ1 S1 => exact h
      | bad => exact h
    exact go _ rfl
theorem db_one (h1 : DS X W st t) : DB X W [st] t := pss_one h1
theorem ds_pass : DS X W (.Pass pos) sNext := PS.imp ps_pass fun D σ H ⟨ω, ρ, S, a, h⟩ => ds_fin a h
theorem ds_doc {x : Str} {j : Nat} {p p' : Pos} : DS X W (.Expr (.Constant (.str x) j p) p') sNext := PS.imp ps_doc fun D σ H ⟨ω, ρ, S, a, h⟩ => ds_fin a h
theorem ds_break : DS X W (.Break pos) sBrk := PS.imp ps_break fun D σ H ⟨ω, ρ, S, a, h⟩ => h σ ω H Ext.refl a.st a.fr
theorem ds_cont : DS X W (.Continue pos) sCont := PS.imp ps_continue fun D σ H ⟨ω, ρ, S, a, h⟩ => h σ ω H Ext.refl a.st a.fr
theorem ds_bad : DS X W st sBad := PS.imp ps_never fun D σ H ⟨ω, ρ, S, a, h⟩ => h
theorem ds_ret (he : DE X W e f) : DS X W (.Return (some e) pos) (sRet f) := PS.imp (ps_ret he) fun D σ H ⟨ω, ρ, S, a, h⟩ =>
  tD_bindS a h fun d S1 v ω1 H1 e1 a1 r1 p1 => p1 v ω1 H1 Ext.refl a1.st r1
theorem ds_retN : DS X W (.Return none pos) sRetN := PS.imp ps_retN fun D σ H ⟨ω, ρ, S, a, h⟩ => h .non ω H Ext.refl a.st .non
theorem ds_expr (he : DE X W e f) (hs : swapsWith e none pos.line X.env = pure false) : DS X W (.Expr e pos) (sExpr f) := PS.imp (ps_expr he hs) fun D σ H ⟨ω, ρ, S, a, h⟩ =>
  tD_bindS a h fun d S1 v ω1 H1 e1 a1 r1 p1 => ds_fin a1 p1
theorem ds_if {A : EvB} (hc : DT X W c A) (ha : DB X W p t) (hb : DB X W q u) : DS X W (.If c p q pos) (sIf A t u) := PS.imp (ps_if hc ha hb) fun D σ H ⟨ω, ρ, S, a, h⟩ =>
  tDT_bindS a h fun b S1 ω1 H1 e1 a1 p1 => by
    cases b with
    | true => rw [if_pos rfl]; exact ⟨ω1, ρ, S1, a1, p1⟩
    | false => rw [if_neg Bool.false_ne_true]; exact ⟨ω1, ρ, S1, a1, p1⟩
/-- a target behind its value -/
theorem tDG_go {En : Ends} {T : Tg} {ω : Om} {H : Hp} {σ : St} {ρ : Fr} {S : Sto} {d : D} {v : V} (a : At X.K X.mg ω H σ ρ S) (r : Rep X.K X.mg ω H d v) (h : PostS X.K X.mg W ω H (orBad (setT T d ρ) fun ρ1 => .nx ρ1 S) En) : tDG X.K X.mg T v σ H En.nx := by
  cases e : setT T d ρ with
  | none => rw [e] at h; exact h.elim
  | some ρ1 => rw [e] at h; exact ⟨ω, d, ρ, S, ρ1, a, r, e, fun σ' f' _ => h σ' ω H Ext.refl a.st f'⟩
theorem ds_asg {tg : Expr} {T : Tg} (he : DE X W e f) (hg : DG X tg T) (hs : swapsWithSole [tg] e pos.line X.env = pure false) (hw : swappedStores [tg] e X.env = pure none) (h1 : (assignEach [tg] X.env).map (·.2) = [assign tg X.env]) :
    DS X W (.Assign [tg] e pos) (sSet T f) := PS.imp (ps_asg he hg hs hw h1) fun D σ H ⟨ω, ρ, S, a, h⟩ =>
  tD_bindS a h fun d S1 v ω1 H1 e1 a1 r1 p1 => tDG_go a1 r1 p1
theorem ds_set {i : Nat} {x : Str} {pos' : Pos} (hN : X.N.Nodup) (hi : X.N[i]? = some x) (hx : Loc X.env.scope x) (hf : X.fn x = true ∨ X.env.scope.names.lookup x = some .local) (he : DE X W e f) (hs : swapsWith e (some (.Name x pos')) pos.line X.env = pure false) :
    DS X W (.Assign [.Name x pos'] e pos) (sSet (.nm i) f) := PS.imp (ps_set hN hi hx he hs hf) fun D σ H ⟨ω, ρ, S, a, h⟩ =>
  tD_bindS a h fun d S1 v ω1 H1 e1 a1 r1 p1 => p1 _ ω1 H1 Ext.refl a1.st (a1.fr.set r1)
theorem tDA_bindS {K : PySem.W.Frag} {mg : Str → Option Value} {W : WX} {ω : Om} {H : Hp} {σ : St} {ρ : Fr} {S : Sto} {f : EvL} {k : List D → Sto → Fl} {D : Ends} {R : List V → Hp → Prop} (a : At K mg ω H σ ρ S) (p : PostS K mg W ω H ((f ρ S).thenS ρ k) D)
    (hk : ∀ d S1 v ω1 H1, Ext ω H ω1 H1 → At K mg ω1 H1 σ ρ S1 → Reps K mg ω1 H1 d v → PostS K mg W ω1 H1 (k d S1) D → R v H1) : tDA K mg W f σ H R :=
  tDA_go a (fun d S1 q v ω1 H1 e a1 r => hk d S1 v ω1 H1 e a1 r (by rw [q] at p; exact p.sh e)) (fun x S1 q => by
    rw [q] at p
    exact fun c dx ω' H' e s r => p c dx σ ω' H' e s (a.go e s).fr r) fun q => by rw [q] at p; exact p
theorem ds_par {i j : Nat} {x y : Str} {a b : Expr} {F : EvL} {px py pt : Pos} {kt k2 : Nat} {pt2 : Pos} (hc : X.calm = true) (hN : X.N.Nodup) (hi : X.N[i]? = some x) (hj : X.N[j]? = some y) (hij : i ≠ j)
    (hx : X.env.scope.names.lookup x = some .local) (hy : X.env.scope.names.lookup y = some .local) (ha : DA X W [a, b] F)
    (hw : swappedStores [.Tuple [.Name x px, .Name y py] kt pt] (.Tuple [a, b] k2 pt2) X.env = pure (some [x, y]))
    (hs : swapsWithSole [.Tuple [.Name x px, .Name y py] kt pt] (.Tuple [a, b] k2 pt2) pos.line X.env = pure false) :
    DS X W (.Assign [.Tuple [.Name x px, .Name y py] kt pt] (.Tuple [a, b] k2 pt2) pos) (sPar i j F) := PS.imp (ps_par hc hN hi hj hij hx hy ha hw hs) fun D σ H ⟨ω, ρ, S, at_, h⟩ =>
  tDA_bindS at_ h fun d S1 v ω1 H1 e1 a1 r1 p1 => by
    split at p1
    · cases r1 with
      | cons r r' => cases r' with
        | cons r' z =>
          cases z
          exact ⟨_, _, rfl, p1 _ ω1 H1 Ext.refl a1.st ((a1.fr.set r).set r')⟩
    · exact p1.elim
end

/-! ### loops -/
def runFor (T : Tg) (b : St') (s : Src) : Nat → Nat → Fr → Sto → Fl
  | 0, _, _, _ => .bad
  | n + 1, i, ρ, S => match itemAt s i S with
    | none => .bad
    | some none => .nx ρ S
    | some (some d) => orBad (setT T d ρ) fun ρ1 => match b ρ1 S with
      | .nx ρ2 S2 => runFor T b s n (i + 1) ρ2 S2
      | .ct ρ2 S2 => runFor T b s n (i + 1) ρ2 S2
      | .bk ρ2 S2 => .nx ρ2 S2
      | r => r
def sFor (T : Tg) (it : EvS) (b : St') : St' := fun ρ S => (it ρ S).thenS ρ fun s S1 => runFor T b s (srcFuel s) 0 ρ S1
def runWhile (c : EvB) (b : St') : Nat → Fr → Sto → Fl
  | 0, _, _ => .bad
  | n + 1, ρ, S => (c ρ S).thenS ρ fun t S1 => if t = true then (match b ρ S1 with
      | .nx ρ2 S2 => runWhile c b n ρ2 S2
      | .ct ρ2 S2 => runWhile c b n ρ2 S2
      | .bk ρ2 S2 => .nx ρ2 S2
      | r => r) else .nx ρ S1
def sWhile (c : EvB) (b : St') : St' := fun ρ S => runWhile c b 1000000 ρ S
section
variable {X : Cx} {W : WX} {pos : Pos} {tg iter c : Expr} {body : List Stmt} {T : Tg} {it : EvS} {b : St'} {A : EvB}
theorem tDI_bindS {K : PySem.W.Frag} {mg : Str → Option Value} {W : WX} {ω : Om} {H : Hp} {σ : St} {ρ : Fr} {S : Sto} {f : EvS} {k : Src → Sto → Fl} {D : Ends} {R : It → Hp → Prop} (a : At K mg ω H σ ρ S) (p : PostS K mg W ω H ((f ρ S).thenS ρ k) D)
    (hk : ∀ s S1 J ω1 H1, Ext ω H ω1 H1 → At K mg ω1 H1 σ ρ S1 → SrcJ K mg J s ω1 H1 → PostS K mg W ω1 H1 (k s S1) D → R J H1) : tDI K mg W f σ H R := by
  refine ⟨ω, ρ, S, a, ?_⟩
  unfold PostI
  split
  · rename_i s S1 q; rw [q] at p; exact fun J ω' H' e s' r => hk s S1 J ω' H' e (a.go e s') r (PostS.sh e p)
  · rename_i x S1 q
    rw [q] at p
    exact fun c dx ω' H' e s r => p c dx σ ω' H' e s (a.go e s).fr r
  · rename_i q; rw [q] at p; exact p
theorem ds_for (hp : PassesOwn (model X.prog X.w) X.A X.env X.xe) (hc : X.calm = true) (hi : DI X W tg iter it) (hg : DG X tg T) (hb : DB X W body b)
    (hs : ∀ x, foldedSetIterable iter X.env x = pure x) : DS X W (.For tg iter body [] pos) (sFor T it b) := by
  refine PS.imp (ps_for hp hc hi hg hb hs) fun D σ H ⟨ω, ρ, S, a, h⟩ => ?_
  refine tDI_bindS a h fun s S1 J ω1 H1 e1 a1 sj p1 => ?_
  refine ⟨fun i m σ H => ∃ ω ρ S, At X.K X.mg ω H σ ρ S ∧ Ext ω1 H1 ω H ∧ PostS X.K X.mg W ω H (runFor T b s m i ρ S) D, ⟨_, ω1, ρ, S1, a1, Ext.refl, p1⟩, ?_⟩
  rintro i m σ2 H2 ⟨ω2, ρ2, S2, a2, e2, p2⟩
  cases m with
  | zero => exact p2.elim
  | succ n =>
    unfold runFor at p2
    obtain ⟨j1, j2⟩ := sj ω2 H2 S2 e2 a2.st i
    split at p2
    · exact p2.elim
    · rename_i q; exact .inl ⟨j1 q, ds_fin a2 p2⟩
    · rename_i d q
      obtain ⟨g, y⟩ := j2 d q
      refine .inr ⟨g, fun σ' H' => ∃ ω ρ S, At X.K X.mg ω H' σ' ρ S ∧ Ext ω1 H1 ω H' ∧ PostS X.K X.mg W ω H' (runFor T b s n (i + 1) ρ S) D, fun σ' H' z => ⟨n, Nat.lt_succ_self n, z⟩, fun x H3 hy => ?_⟩
      obtain ⟨e3, s3, r3⟩ := y x H3 hy
      cases eT : setT T d ρ2 with
      | none => rw [eT] at p2; exact p2.elim
      | some ρ3 =>
        rw [eT] at p2
        refine ⟨ω2, d, ρ2, S2, ρ3, a2.go e3 s3, r3, eT, fun σ4 f4 _ => ?_⟩
        refine ⟨ω2, ρ3, S2, ⟨s3, f4⟩, ?_⟩
        have p3 : PostS X.K X.mg W ω2 H3 (match b ρ3 S2 with
          | .nx ρ2 S2 => runFor T b s n (i + 1) ρ2 S2
          | .ct ρ2 S2 => runFor T b s n (i + 1) ρ2 S2
          | .bk ρ2 S2 => .nx ρ2 S2
          | r => r) D := PostS.sh e3 p2
        clear p2
        cases hb' : b ρ3 S2 with
        | nx ρ4 S4 => rw [hb'] at p3; exact fun σ5 ω5 H5 e5 s5 f5 => ⟨ω5, ρ4, S4, ⟨s5, f5⟩, (e2.trans e3).trans e5, PostS.sh e5 p3⟩
        | ct ρ4 S4 => rw [hb'] at p3; exact fun σ5 ω5 H5 e5 s5 f5 => ⟨ω5, ρ4, S4, ⟨s5, f5⟩, (e2.trans e3).trans e5, PostS.sh e5 p3⟩
        | bk ρ4 S4 => rw [hb'] at p3; exact p3
        | rt d S4 => rw [hb'] at p3; exact p3
        | ex z ρ4 S4 => rw [hb'] at p3; exact p3
        | bad => rw [hb'] at p3; exact p3
theorem ds_while (hp : PassesOwn (model X.prog X.w) X.A X.env X.xe) (hc : DT X W c A) (hb : DB X W body b) : DS X W (.While c body [] pos) (sWhile A b) := by
  refine PS.imp (ps_while hp hc hb) fun D σ H ⟨ω, ρ, S, a, h⟩ => ?_
  refine ⟨fun m σ H => ∃ ω ρ S, At X.K X.mg ω H σ ρ S ∧ PostS X.K X.mg W ω H (runWhile A b m ρ S) D, ⟨1000000, ω, ρ, S, a, h⟩, ?_⟩
  rintro m σ2 H2 ⟨ω2, ρ2, S2, a2, p2⟩
  cases m with
  | zero => exact p2.elim
  | succ n =>
    unfold runWhile at p2
    refine tDT_bindS a2 p2 fun t S3 ω3 H3 e3 a3 p3 => ?_
    cases t with
    | false => rw [if_neg Bool.false_ne_true] at p3 ⊢; exact ds_fin a3 p3
    | true =>
      rw [if_pos rfl] at p3 ⊢
      refine ⟨fun σ' H' => ∃ ω ρ S, At X.K X.mg ω H' σ' ρ S ∧ PostS X.K X.mg W ω H' (runWhile A b n ρ S) D, fun σ' H' z => ⟨n, Nat.lt_succ_self n, z⟩, ω3, ρ2, S3, a3, ?_⟩
      cases hb' : b ρ2 S3 with
      | nx ρ4 S4 => rw [hb'] at p3; exact fun σ5 ω5 H5 e5 s5 f5 => ⟨ω5, ρ4, S4, ⟨s5, f5⟩, PostS.sh e5 p3⟩
      | ct ρ4 S4 => rw [hb'] at p3; exact fun σ5 ω5 H5 e5 s5 f5 => ⟨ω5, ρ4, S4, ⟨s5, f5⟩, PostS.sh e5 p3⟩
      | bk ρ4 S4 => rw [hb'] at p3; exact p3
      | rt d S4 => rw [hb'] at p3; exact p3
      | ex z ρ4 S4 => rw [hb'] at p3; exact p3
      | bad => rw [hb'] at p3; exact p3
end

/-! ### comprehensions -/
def runLC (T : Tg) (c : EvB) (f : Ev) (s : Src) : Nat → Nat → Fr → List D → Sto → Res (List D)
  | 0, _, _, _, _ => .bad
  | n + 1, i, ρ, acc, S => match itemAt s i S with
    | none => .bad
    | some none => .ok acc S
    | some (some d) => match setT T d ρ with
      | none => .bad
      | some ρ1 => match c ρ1 S with
        | .ok true S1 => match f ρ1 S1 with
          | .ok y S2 => if lenFits (acc.length + 1) = true then runLC T c f s n (i + 1) ρ (acc ++ [y]) S2 else .bad
          | _ => .bad
        | .ok false S1 => runLC T c f s n (i + 1) ρ acc S1
        | _ => .bad
def lLC (T : Tg) (it : EvS) (c : EvB) (f : Ev) (vs : List Nat) : EvL := fun ρ S => (it ρ S).bind fun s S1 => runLC T c f s (srcFuel s) 0 (wipeR ρ vs) [] S1
def bYes : EvB := fun _ S => .ok true S
abbrev DTs (X : Cx) (W : WX) (ifs : List Expr) (f : EvB) : Prop := PTs X ifs (tDT X.K X.mg W f)
theorem PTs.imp {X : Cx} {ifs : List Expr} {t t' : TT} (h : PTs X ifs t) (i : ∀ σ H Q, t' σ H Q → t σ H Q) : PTs X ifs t' := ⟨fun pins s σ H Q I q => h.run pins s σ H Q I (i _ _ _ q)⟩
theorem dts_nil {X : Cx} {W : WX} : DTs X W [] bYes := PTs.imp pts_nil fun σ H Q ⟨ω, ρ, S, a, p⟩ => p ω H Ext.refl a.st
theorem dts_one {X : Cx} {W : WX} {c : Expr} {A : EvB} (h : DT X W c A) : DTs X W [c] A := pts_one h
/-- no wish -/
def W0 : WX := fun _ _ _ _ => False
section
variable {K : PySem.W.Frag} {mg : Str → Option Value} {ω ω1 : Om} {H : Hp} {D0 : Addr} {acc : List V} {o : HO}
/-- the list at D0, of nobody, is written -/
theorem rep_over {d : D} {v : V} (hd : H D0 = some (.lst acc)) (hm : ¬ ω.M D0) (r : Rep K mg ω H d v) : Rep K mg ω (upd H D0 o) d v :=
  r.mapR (fun a vs h => by
    rw [upd_ne (fun e => by subst e; rw [hd] at h; cases h)]; exact h) (fun a vs h => by
    rcases h with ⟨ob, h⟩ | h
    · exact .inl ⟨ob, by rw [upd_ne (fun e => by subst e; rw [hd] at h; cases h)]; exact h⟩
    · exact .inr h) (fun a o' _ h => h.over fun e => by subst e; exact hm h.1) fun _ _ h => h
theorem reps_over {d : List D} {v : List V} (hd : H D0 = some (.lst acc)) (hm : ¬ ω.M D0) (r : Reps K mg ω H d v) : Reps K mg ω (upd H D0 o) d v :=
  r.mapR (fun a vs h => by
    rw [upd_ne (fun e => by subst e; rw [hd] at h; cases h)]; exact h) (fun a vs h => by
    rcases h with ⟨ob, h⟩ | h
    · exact .inl ⟨ob, by rw [upd_ne (fun e => by subst e; rw [hd] at h; cases h)]; exact h⟩
    · exact .inr h) (fun a o' _ h => h.over fun e => by subst e; exact hm h.1) fun _ _ h => h
theorem obr_over {ob : Ob} {o' : HO} (hd : H D0 = some (.lst acc)) (hm : ¬ ω.M D0) (r : ObR K mg ω H ob o') : ObR K mg ω (upd H D0 o) ob o' :=
  r.mapR (fun a vs h => by
    rw [upd_ne (fun e => by subst e; rw [hd] at h; cases h)]; exact h) (fun a vs h => by
    rcases h with ⟨ob, h⟩ | h
    · exact .inl ⟨ob, by rw [upd_ne (fun e => by subst e; rw [hd] at h; cases h)]; exact h⟩
    · exact .inr h) (fun a o' _ h => h.over fun e => by subst e; exact hm h.1) fun _ _ h => h
theorem st_over {S : Sto} (hd : H D0 = some (.lst acc)) (ha : D0 ∉ ω.at_) (hm : ¬ ω.M D0) (s : St0 K mg ω H S) : St0 K mg ω (upd H D0 o) S :=
  ⟨⟨s.ok.nd, s.ok.dis, fun a h => by
      obtain ⟨o', q, m⟩ := s.ok.kind a h
      exact ⟨o', by rw [upd_ne (fun e => by subst e; exact ha h)]; exact q, m⟩, fun a h => by
      obtain ⟨o', q⟩ := s.ok.imm a h
      exact ⟨o', by rw [upd_ne (fun e => by subst e; exact hm h)]; exact q⟩⟩, s.len, fun l ob a h1 h2 => by
    obtain ⟨o', q, r⟩ := s.obs l ob a h1 h2
    exact ⟨o', by rw [upd_ne (fun e => by subst e; exact ha (List.mem_of_getElem? h2))]; exact q, obr_over hd hm r⟩⟩
theorem fr_over {ρ : Fr} {σ : St} (hd : H D0 = some (.lst acc)) (hm : ¬ ω.M D0) (f : FrR K mg ω H ρ σ) : FrR K mg ω (upd H D0 o) ρ σ :=
  ⟨f.len, fun i d q => let ⟨v, h, r⟩ := f.val i d q; ⟨v, h, rep_over hd hm r⟩⟩
theorem ext_over {H1 : Hp} (n : H1 D0 = none) (ha : D0 ∉ ω.at_) (e : Ext ω1 H1 ω H) (hd : H D0 = some (.lst acc)) : Ext ω1 H1 ω (upd H D0 o) :=
  ⟨e.more, e.mono, e.new, fun a o' q m => by rw [upd_ne (ne_of_none q n)]; exact e.keep a o' q m, fun a o' q => by
    obtain ⟨o2, z⟩ := e.there a o' q
    exact ⟨o2, by rw [upd_ne (ne_of_none q n)]; exact z⟩⟩
end
section
variable {X : Cx} {W : WX} {pos : Pos} {tg iter elt : Expr} {T : Tg} {it : EvS} {A : EvB} {f : Ev}
theorem tDI_bindL {K : PySem.W.Frag} {mg : Str → Option Value} {W : WX} {ω : Om} {H : Hp} {σ : St} {ρ : Fr} {S : Sto} {f : EvS} {k : Src → Sto → Res (List D)} {Q : VK} {R : It → Hp → Prop} (a : At K mg ω H σ ρ S) (p : PostL K mg W ω H σ ((f ρ S).bind k) Q)
    (hk : ∀ s S1 J ω1 H1, Ext ω H ω1 H1 → At K mg ω1 H1 σ ρ S1 → SrcJ K mg J s ω1 H1 → PostL K mg W ω1 H1 σ (k s S1) Q → R J H1) : tDI K mg W f σ H R := by
  refine ⟨ω, ρ, S, a, ?_⟩
  unfold PostI
  split
  · rename_i s S1 q; rw [q] at p; exact fun J ω' H' e s' r => hk s S1 J ω' H' e (a.go e s') r (PostL.sh e p)
  · rename_i x S1 q
    rw [q] at p
    exact p
  · rename_i q; rw [q] at p; exact p
/-- the reading -/
theorem lc_rd {K : PySem.W.Frag} {mg : Str → Option Value} {vs : List Nat} {σ : St} {H : Hp} {Q : VK} (hsl : ∀ i ∈ slots T, i ∈ vs) (h : tDL K mg W (lLC T it A f vs) σ H Q) : tLc (tDI K mg W it) (tDG K mg T) (tDT K mg W0 A) (tD K mg W0 f) vs σ H Q := by
  obtain ⟨ω, ρ, S, a, p⟩ := h
  refine tDI_bindL a p fun s S1 J ω1 H1 e1 a1 sj p1 => fun D0 hD => ?_
  refine ⟨fun i m H => ∃ ω S acc us, St0 K mg ω H S ∧ FrR K mg ω H (wipeR ρ vs) (wipe σ vs) ∧ Ext ω1 H1 ω H ∧ H D0 = some (.lst us) ∧ D0 ∉ ω.at_ ∧ ¬ ω.M D0 ∧ Reps K mg ω H acc us ∧ PostL K mg W ω1 H1 σ (runLC T A f s m i (wipeR ρ vs) acc S) Q,
    ⟨_, ω1, S1, [], [], st_new a1.st hD, (a1.fr.wipe vs).keep a1.st.ok (ext_new hD), ext_new hD, upd_same, a1.notAt hD, a1.notM hD, .nil, p1⟩, ?_⟩
  rintro i m H2 ⟨ω2, S2, acc, us, s2, f2, e2, hd2, na2, nm2, r2, p2⟩
  cases m with
  | zero => exact p2.elim
  | succ n =>
    unfold runLC at p2
    obtain ⟨j1, j2⟩ := sj ω2 H2 S2 e2 s2 i
    split at p2
    · exact p2.elim
    · rename_i q; exact .inl ⟨j1 q, p2 D0 us ω2 H2 e2 s2 hD hd2 na2 nm2 r2⟩
    · rename_i d q
      obtain ⟨g, y⟩ := j2 d q
      refine .inr ⟨g, fun H => ∃ ω S acc us, St0 K mg ω H S ∧ FrR K mg ω H (wipeR ρ vs) (wipe σ vs) ∧ Ext ω1 H1 ω H ∧ H D0 = some (.lst us) ∧ D0 ∉ ω.at_ ∧ ¬ ω.M D0 ∧ Reps K mg ω H acc us ∧ PostL K mg W ω1 H1 σ (runLC T A f s n (i + 1) (wipeR ρ vs) acc S) Q,
        fun H' z => ⟨n, Nat.lt_succ_self n, z⟩, fun x H3 hy => ?_⟩
      obtain ⟨e3, s3, r3⟩ := y x H3 hy
      split at p2
      · exact p2.elim
      · rename_i ρ3 eT
        have a2 : At K mg ω2 H2 (wipe σ vs) (wipeR ρ vs) S2 := ⟨s2, f2⟩
        refine ⟨ω2, d, _, S2, ρ3, a2.go e3 s3, r3, eT, fun σ4 f4 w4 => ⟨?_, ?_⟩⟩
        · rw [w4 vs hsl, wipe_wipe fun _ z => z]
        · -- what stays of the list
          have stay : ∀ {ω' : Om} {H' : Hp}, Ext ω2 H2 ω' H' → H' D0 = some (.lst us) ∧ D0 ∉ ω'.at_ ∧ ¬ ω'.M D0 := fun {ω' H'} e => by
            refine ⟨e.keep _ _ hd2 na2, fun hm => ?_, fun hm => ?_⟩
            · rcases e.mem hm with z | z
              · exact na2 z
              · rw [hd2] at z; cases z
            · rcases e.new _ hm with z | z
              · exact nm2 z
              · rw [hd2] at z; cases z
          refine ⟨ω2, ρ3, S2, ⟨s3, f4⟩, ?_⟩
          cases hA : A ρ3 S2 with
          | ex z S5 => rw [hA] at p2; exact p2.elim
          | bad => rw [hA] at p2; exact p2.elim
          | ok t S5 =>
            rw [hA] at p2
            intro ω5 H5 e5 s5
            have e25 := e3.trans e5
            obtain ⟨hd5, na5, nm5⟩ := stay e25
            cases t with
            | false =>
              rw [if_neg Bool.false_ne_true]
              exact ⟨ω5, S5, acc, us, s5, f2.keep s2.ok e25, e2.trans e25, hd5, na5, nm5, r2.keep s2.ok e25, p2⟩
            | true =>
              rw [if_pos rfl]
              refine ⟨ω5, ρ3, S5, ⟨s5, f4.keep s3.ok e5⟩, ?_⟩
              change PostL K mg W ω1 H1 σ (match f ρ3 S5 with
                | .ok y S2 => if lenFits (acc.length + 1) = true then runLC T A f s n (i + 1) (wipeR ρ vs) (acc ++ [y]) S2 else .bad
                | _ => .bad) Q at p2
              cases hf : f ρ3 S5 with
              | ex z S6 => rw [hf] at p2; exact p2.elim
              | bad => rw [hf] at p2; exact p2.elim
              | ok yd S6 =>
                rw [hf] at p2
                change PostL K mg W ω1 H1 σ (if lenFits (acc.length + 1) = true then runLC T A f s n (i + 1) (wipeR ρ vs) (acc ++ [yd]) S6 else .bad) Q at p2
                split at p2
                · rename_i hl
                  have hl := lenFits_le hl
                  intro yv ω6 H6 e6 s6 r6
                  have e26 := e25.trans e6
                  obtain ⟨hd6, na6, nm6⟩ := stay e26
                  have r26 := r2.keep s2.ok e26
                  refine ⟨us, hd6, by rw [r2.length] at hl; omega, ω6, S6, acc ++ [yd], us ++ [yv], st_over hd6 na6 nm6 s6, fr_over hd6 nm6 (f2.keep s2.ok e26), ext_over hD na6 (e2.trans e26) hd6, upd_same, na6, nm6, ?_, p2⟩
                  exact (reps_over hd6 nm6 r26).append (.cons (rep_over hd6 nm6 r6) .nil)
                · exact p2.elim
end
end PL
end
section
set_option Elab.async false
set_option linter.all false
set_option maxRecDepth 100000
set_option maxHeartbeats 4000000
set_option autoImplicit false
/-! Part j: new objects, held in the store or laid as values; comprehensions as expressions; stores. -/
namespace PL
open PySem L2

/-! ### new objects -/
abbrev EvN := Fr → Sto → Res Ob
def obD : Ob → D
  | .lst xs => .lst xs
  | .dct t kvs => .dct t kvs
  | .ins c fs => .ins c fs
section
variable (K : PySem.W.Frag) (mg : Str → Option Value)
/-- a new object, which nobody else knows -/
def PostN (W : WX) (ω : Om) (H : Hp) (σ : St) (r : Res Ob) (Q : VK) : Prop :=
  match r with
  | .ok ob S => ∀ a o ω' H', Ext ω H ω' H' → St0 K mg ω' H' S → H a = none → H' a = some o → ObR K mg ω' H' ob o → a ∉ ω'.at_ → ¬ ω'.M a → Q (.ref a) H'
  | .ex x S => ∀ c dx ω' H', Ext ω H ω' H' → St0 K mg ω' H' S → XRep K mg ω' H' x c dx → W c dx σ H'
  | .bad => False
def tDN (W : WX) (f : EvN) : TE := fun σ H Q => ∃ ω ρ S, At K mg ω H σ ρ S ∧ PostN K mg W ω H σ (f ρ S) Q
end
abbrev DN (X : Cx) (W : WX) (e : Expr) (f : EvN) : Prop := PE X e (tDN X.K X.mg W f)
/-- laid as a value -/
def eFixN (f : EvN) : Ev := fun ρ S => (f ρ S).bind fun ob S1 => .ok (obD ob) S1
/-- held in the store -/
def eThaw (f : EvN) : Ev := fun ρ S => (f ρ S).bind fun ob S1 => .ok (.ref S1.length) (S1 ++ [ob])
def nLst (f : EvL) : EvN := fun ρ S => (f ρ S).bind fun xs S1 => .ok (.lst xs) S1
section
variable {K : PySem.W.Frag} {mg : Str → Option Value} {W : WX} {ω ω1 : Om} {H H1 : Hp} {σ : St} {ρ : Fr} {S S1 : Sto}
theorem PostN.sh {r : Res Ob} {Q : VK} (e : Ext ω H ω1 H1) (p : PostN K mg W ω H σ r Q) : PostN K mg W ω1 H1 σ r Q := by
  cases r with
  | ok d S => exact fun a o ω' H' e' s n q r n1 n2 => p a o ω' H' (e.trans e') s (e.free n) q r n1 n2
  | ex x S => exact fun c dx ω' H' e' s r => p c dx ω' H' (e.trans e') s r
  | bad => exact p
theorem RepF.fix {ds : List (Str × D)} {vs : List (Str × V)} {p : Addr} (r : RepF K mg ω H ds vs) : RepF K mg (ω.fix p) H ds vs := r.mapR (ω' := ω.fix p) (fun _ _ z => z) (fun _ _ z => z) (fun _ _ _ z => z.fix) fun _ _ z => z
theorem RepK.fix {ds : List (D × D)} {vs : List (Key × V)} {p : Addr} (r : RepK K mg ω H ds vs) : RepK K mg (ω.fix p) H ds vs := r.mapR (ω' := ω.fix p) (fun _ _ z => z) (fun _ _ z => z) (fun _ _ _ z => z.fix) fun _ _ z => z
theorem RepT.fix {ds : List (D × D)} {vs : List (List Key × V)} {p : Addr} (r : RepT K mg ω H ds vs) : RepT K mg (ω.fix p) H ds vs := r.mapR (ω' := ω.fix p) (fun _ _ z => z) (fun _ _ z => z) (fun _ _ _ z => z.fix) fun _ _ z => z
theorem fix_rd {f : EvN} {Q : VK} (h : tD K mg W (eFixN f) σ H Q) : tDN K mg W f σ H Q := by
  obtain ⟨ω, ρ, S, a, p⟩ := h
  refine ⟨ω, ρ, S, a, ?_⟩
  have go : ∀ r : Res Ob, f ρ S = r → PostN K mg W ω H σ r Q := fun r er => by
    unfold eFixN at p
    rw [er] at p
    cases r with
    | ok ob S1 =>
      intro q o ω' H' e' s n hq r n1 n2
      refine p (.ref q) (ω'.fix q) H' (ext_fix n e') (s.fix hq n1) ?_
      cases r with
      | lst r => exact .lst ⟨.inr rfl, .inl hq⟩ r.fix
      | dct r => exact .dct ⟨.inr rfl, .inl hq⟩ r.fix
      | dctT r => exact .dctT ⟨.inr rfl, .inl hq⟩ r.fix
      | ins hc r => exact .ins hc ⟨.inr rfl, .inl hq⟩ r.fix
    | ex x S1 => exact p
    | bad => exact p
  exact go _ rfl
def Om.more (ω : Om) (p : Addr) : Om := ⟨ω.M, ω.at_ ++ [p]⟩
theorem ext_more {p : Addr} (n : H p = none) (e : Ext ω H ω1 H1) : Ext ω H (ω1.more p) H1 :=
  ⟨by
    obtain ⟨m, em, hm⟩ := e.more
    exact ⟨m ++ [p], by show ω1.at_ ++ [p] = _; rw [em, List.append_assoc], fun a ha => by
      rcases List.mem_append.mp ha with ha | ha
      · exact hm a ha
      · rw [List.mem_singleton.mp ha]; exact n⟩, e.mono, e.new, e.keep, e.there⟩
theorem get_more {l : Nat} {a p : Addr} (h : ω.at_[l]? = some a) : (ω.more p).at_[l]? = some a := by
  show (ω.at_ ++ [p])[l]? = _
  rw [List.getElem?_append_left (List.getElem?_eq_some_iff.mp h).1]; exact h
theorem ObR.more {ob : Ob} {o : HO} {p : Addr} (r : ObR K mg ω H ob o) : ObR K mg (ω.more p) H ob o := r.mapR (ω := ω) (ω' := ω.more p) (fun _ _ z => z) (fun _ _ z => z) (fun _ _ _ z => z) fun _ _ z => get_more z
theorem St0.more {ob : Ob} {o : HO} {p : Addr} (s : St0 K mg ω H S) (h : H p = some o) (r : ObR K mg ω H ob o) (n1 : p ∉ ω.at_) (n2 : ¬ ω.M p) : St0 K mg (ω.more p) H (S ++ [ob]) :=
  ⟨⟨by show (ω.at_ ++ [p]).Nodup; rw [List.nodup_append]; exact ⟨s.ok.nd, by simp, fun a ha b hb => by rw [List.mem_singleton.mp hb]; exact fun e => n1 (e ▸ ha)⟩, fun a ha => by
      rcases List.mem_append.mp ha with ha | ha
      · exact s.ok.dis a ha
      · rw [List.mem_singleton.mp ha]; exact n2, fun a ha => by
      rcases List.mem_append.mp ha with ha | ha
      · exact s.ok.kind a ha
      · rw [List.mem_singleton.mp ha]; exact ⟨o, h, r.mut⟩, s.ok.imm⟩, by show _ = (ω.at_ ++ [p]).length; rw [List.length_append, List.length_append, s.len]; rfl, fun l ob' a h1 h2 => by
    by_cases hl : l < S.length
    · rw [List.getElem?_append_left hl] at h1
      have h2 : (ω.at_ ++ [p])[l]? = some a := h2
      rw [List.getElem?_append_left (by rw [← s.len]; exact hl)] at h2
      obtain ⟨o', q, r'⟩ := s.obs l ob' a h1 h2
      exact ⟨o', q, r'.more⟩
    · have hl' : S.length ≤ l := Nat.le_of_not_lt hl
      rw [List.getElem?_append_right hl'] at h1
      have h2 : (ω.at_ ++ [p])[l]? = some a := h2
      rw [List.getElem?_append_right (by rw [← s.len]; exact hl')] at h2
      have e : l - S.length = 0 := by
        have := (List.getElem?_eq_some_iff.mp h1).1
        simp at this
        omega
      rw [e] at h1
      rw [← s.len, e] at h2
      cases h1; cases h2
      exact ⟨o, h, r.more⟩⟩
theorem thaw_rd {f : EvN} {Q : VK} (h : tD K mg W (eThaw f) σ H Q) : tDN K mg W f σ H Q := by
  obtain ⟨ω, ρ, S, a, p⟩ := h
  refine ⟨ω, ρ, S, a, ?_⟩
  have go : ∀ r : Res Ob, f ρ S = r → PostN K mg W ω H σ r Q := fun r er => by
    unfold eThaw at p
    rw [er] at p
    cases r with
    | ok ob S1 =>
      intro q o ω' H' e' s n hq r n1 n2
      refine p (.ref q) (ω'.more q) H' (ext_more n e') (s.more hq r n1 n2) (.ref ?_)
      show (ω'.at_ ++ [q])[S1.length]? = _
      rw [s.len, List.getElem?_append_right (Nat.le_refl _), Nat.sub_self]; rfl
    | ex x S1 => exact p
    | bad => exact p
  exact go _ rfl
theorem nLst_rd {f : EvL} {Q : VK} (h : tDN K mg W (nLst f) σ H Q) : tDL K mg W f σ H Q := by
  obtain ⟨ω, ρ, S, a, p⟩ := h
  refine ⟨ω, ρ, S, a, ?_⟩
  have go : ∀ r : Res (List D), f ρ S = r → PostL K mg W ω H σ r Q := fun r er => by
    unfold nLst at p
    rw [er] at p
    cases r with
    | ok xs S1 => exact fun q vs ω' H' e' s n hq n1 n2 r => p q _ ω' H' e' s n hq (.lst r) n1 n2
    | ex x S1 => exact p
    | bad => exact p
  exact go _ rfl
theorem PostN.fin {ob : Ob} {o : HO} {Q : VK} (a : At K mg ω H σ ρ S) (p : PostN K mg W ω H σ (.ok ob S) Q) {q : Addr} (n : H q = none) (r : ObR K mg ω H ob o) : Q (.ref q) (upd H q o) :=
  p q o ω _ (ext_new n) (st_new a.st n) n upd_same (r.keep a.st.ok (ext_new n)) (a.notAt n) (a.notM n)
end
section
variable {X : Cx} {W : WX} {e : Expr} {f : EvN} {g : EvL}
theorem de_fixN (h : DN X W e f) : DE X W e (eFixN f) := PE.imp h fun _ _ _ z => fix_rd z
theorem de_thaw (h : DN X W e f) : DE X W e (eThaw f) := PE.imp h fun _ _ _ z => thaw_rd z
theorem dn_lst (h : DL X W e g) : DN X W e (nLst g) := PE.imp h fun _ _ _ z => nLst_rd z
end

/-! ### comprehensions -/
section
variable {X : Cx} {W : WX} {elt tg iter : Expr} {ifs : List Expr} {scope : Scope} {own : List (Str × Nat)} {pos spos py : Pos} {T : Tg} {it : EvS} {A : EvB} {f : Ev} {i : Nat} {y : Str}
theorem dl_lc (hc : X.calm = true) (hN : X.N.Nodup) (hi : DI X W tg iter it) (ok : BlkOk X.N X.env.scope scope own) (hsl : ∀ i ∈ slots T, i ∈ own.map (·.2))
    (hg : ∀ (s : Shared) (H : Hp) (C : Addr) (cl : List (Str × Addr)) (fp : List Addr), DG (X.blk s H scope (compEnvC scope cl C X.env) fp) tg T) (ht : ∀ (s : Shared) (H : Hp) (C : Addr) (cl : List (Str × Addr)) (fp : List Addr), DTs (X.blk s H scope (compEnvC scope cl C X.env) fp) W0 ifs A)
    (he : ∀ (s : Shared) (H : Hp) (C : Addr) (cl : List (Str × Addr)) (fp : List Addr), DE (X.blk s H scope (compEnvC scope cl C X.env) fp) W0 elt f) (hs : ∀ x, foldedSetIterable iter X.env x = pure x) :
    DL X W (.ListComp elt [⟨tg, iter, ifs, 0⟩] scope pos) (lLC T it A f (own.map (·.2))) :=
  PE.imp (pe_lc hc hN hi ok hg ht he hs) fun _ _ _ h => lc_rd hsl h
/-- name = [..], laid as a value, or held in the store -/
theorem ds_setLc {fx : EvN → Ev} (hfx : fx = eFixN ∨ fx = eThaw) (hc : X.calm = true) (hN : X.N.Nodup) (hy : X.N[i]? = some y) (hyl : X.env.scope.names.lookup y = some .local)
    (hsw : swapsWith (.ListComp elt [⟨tg, iter, ifs, 0⟩] scope pos) (some (.Name y py)) spos.line X.env = pure true) (hi : DI X W tg iter it) (ok : BlkOk X.N X.env.scope scope own) (hsl : ∀ i ∈ slots T, i ∈ own.map (·.2))
    (hg : ∀ (s : Shared) (H : Hp) (C : Addr) (cl : List (Str × Addr)) (fp : List Addr), DG (X.blk s H scope (compEnvC scope cl C X.env) fp) tg T) (ht : ∀ (s : Shared) (H : Hp) (C : Addr) (cl : List (Str × Addr)) (fp : List Addr), DTs (X.blk s H scope (compEnvC scope cl C X.env) fp) W0 ifs A)
    (he : ∀ (s : Shared) (H : Hp) (C : Addr) (cl : List (Str × Addr)) (fp : List Addr), DE (X.blk s H scope (compEnvC scope cl C X.env) fp) W0 elt f) (hs : ∀ x, foldedSetIterable iter X.env x = pure x) :
    DS X W (.Assign [.Name y py] (.ListComp elt [⟨tg, iter, ifs, 0⟩] scope pos) spos) (sSet (.nm i) (fx (nLst (lLC T it A f (own.map (·.2)))))) :=
  PS.imp (ps_setLc (tt := tDT X.K X.mg W0 A) (te := tD X.K X.mg W0 f) hc hN hy hyl hsw hi ok hg ht he hs) fun D σ H h => by
    have h' : tD X.K X.mg W (fx (nLst (lLC T it A f (own.map (·.2))))) σ H (fun v H1 => gName i v σ H1 D.nx) := by
      obtain ⟨ω, ρ, S, a, p⟩ := h
      exact tD_bindS a p fun d S1 v ω1 H1 e1 a1 r1 p1 => p1 _ ω1 H1 Ext.refl a1.st (a1.fr.set r1)
    have h2 : tDL X.K X.mg W (lLC T it A f (own.map (·.2))) σ H (fun v H1 => gName i v σ H1 D.nx) := by
      refine nLst_rd ?_
      rcases hfx with e | e
      · subst e; exact fix_rd h'
      · subst e; exact thaw_rd h'
    exact lc_rd hsl h2
end

/-! ### the store is written -/
section
variable {K : PySem.W.Frag} {mg : Str → Option Value} {W : WX} {ω ω1 : Om} {H H1 : Hp} {σ : St} {ρ : Fr} {S S1 : Sto}
theorem rep_upd {a : Addr} {o o' : HO} (hk : isMut o = true) (ha : H a = some o) (hm : ¬ ω.M a) {d : D} {v : V} (r : Rep K mg ω H d v) : Rep K mg ω (upd H a o') d v :=
  r.mapR (fun b vs h => by
    rw [upd_ne (fun e => by subst e; rw [ha] at h; cases h; cases hk)]; exact h) (fun b vs h => by
    rcases h with ⟨ob, h⟩ | h
    · exact .inl ⟨ob, by rw [upd_ne (fun e => by subst e; rw [ha] at h; cases h; cases hk)]; exact h⟩
    · exact .inr h) (fun b o' _ h => h.over fun e => by subst e; exact hm h.1) fun _ _ h => h
theorem obr_upd {a : Addr} {o o' : HO} (hk : isMut o = true) (ha : H a = some o) (hm : ¬ ω.M a) {d : Ob} {v : HO} (r : ObR K mg ω H d v) : ObR K mg ω (upd H a o') d v :=
  r.mapR (fun b vs h => by
    rw [upd_ne (fun e => by subst e; rw [ha] at h; cases h; cases hk)]; exact h) (fun b vs h => by
    rcases h with ⟨ob, h⟩ | h
    · exact .inl ⟨ob, by rw [upd_ne (fun e => by subst e; rw [ha] at h; cases h; cases hk)]; exact h⟩
    · exact .inr h) (fun b o' _ h => h.over fun e => by subst e; exact hm h.1) fun _ _ h => h
theorem nodup_inj {α : Type} {a : α} : ∀ {xs : List α} {i j : Nat}, xs.Nodup → xs[i]? = some a → xs[j]? = some a → i = j
  | [], i, j, _, h, _ => by simp at h
  | x :: xs, 0, 0, _, _, _ => rfl
  | x :: xs, 0, j + 1, n, h, h' => by
    simp at h h'; subst h
    exact absurd (List.mem_of_getElem? h') (List.nodup_cons.mp n).1
  | x :: xs, i + 1, 0, n, h, h' => by
    simp at h h'; subst h'
    exact absurd (List.mem_of_getElem? h) (List.nodup_cons.mp n).1
  | x :: xs, i + 1, j + 1, n, h, h' => by
    simp at h h'
    rw [nodup_inj (List.nodup_cons.mp n).2 h h']
/-- the object l is written -/
theorem St0.put {l : Nat} {a : Addr} {ob0 ob : Ob} {o : HO} (s : St0 K mg ω H S) (hl : ω.at_[l]? = some a) (h0 : S[l]? = some ob0) (r : ObR K mg ω H ob o) : Ext ω H ω (upd H a o) ∧ St0 K mg ω (upd H a o) (S.set l ob) := by
  obtain ⟨o0, q0, r0⟩ := s.obs l ob0 a h0 hl
  have hk := r0.mut
  have hm : a ∈ ω.at_ := List.mem_of_getElem? hl
  have hM := s.ok.dis a hm
  refine ⟨⟨⟨[], by simp, by simp⟩, fun _ h => h, fun _ h => .inl h, fun b o' h n => by rw [upd_ne (fun e => by subst e; exact n hm)]; exact h, fun b o' h => ?_⟩, ⟨⟨s.ok.nd, s.ok.dis, fun b hb => ?_, fun b hb => ?_⟩, by rw [List.length_set]; exact s.len, fun j ob' b h1 h2 => ?_⟩⟩
  · by_cases e : b = a
    · subst e; exact ⟨o, upd_same⟩
    · exact ⟨o', by rw [upd_ne e]; exact h⟩
  · by_cases e : b = a
    · subst e; exact ⟨o, upd_same, r.mut⟩
    · obtain ⟨o', h, m⟩ := s.ok.kind b hb
      exact ⟨o', by rw [upd_ne e]; exact h, m⟩
  · obtain ⟨o', h⟩ := s.ok.imm b hb
    exact ⟨o', by rw [upd_ne (fun e => by subst e; exact hM hb)]; exact h⟩
  · by_cases e : j = l
    · subst e
      rw [List.getElem?_set_self (List.getElem?_eq_some_iff.mp h0).1] at h1
      rw [hl] at h2
      cases h1; cases h2
      exact ⟨o, upd_same, obr_upd hk q0 hM r⟩
    · rw [List.getElem?_set_ne (Ne.symm e)] at h1
      have ne : b ≠ a := fun e' => by
        subst e'
        exact e (nodup_inj s.ok.nd h2 hl)
      obtain ⟨o', h, r'⟩ := s.obs j ob' b h1 h2
      exact ⟨o', by rw [upd_ne ne]; exact h, obr_upd hk q0 hM r'⟩
end
/-- a dict with one pair more, or another value -/
def putL (kvs : List (D × D)) (κ : Key) (k d : D) : List (D × D) := if (kvs.any fun kv => decide (keyOf kv.1 = some κ)) = true then kvs.map (fun kv => if keyOf kv.1 = some κ then (kv.1, d) else kv) else kvs ++ [(k, d)]
def putT (kvs : List (D × D)) (κ : List Key) (k d : D) : List (D × D) := if (kvs.any fun kv => decide (tkeyOf kv.1 = some κ)) = true then kvs.map (fun kv => if tkeyOf kv.1 = some κ then (kv.1, d) else kv) else kvs ++ [(k, d)]
def putOb (ob : Ob) (k d : D) : Option Ob := match ob, k with
  | .lst xs, .int i => (ixN xs.length i).map fun j => .lst (xs.set j d)
  | .dct false kvs, k => (keyOf k).bind fun κ => if kvs.length < sizeLine then some (.dct false (putL kvs κ k d)) else none
  | .dct true kvs, k => (tkeyOf k).bind fun κ => if kvs.length < sizeLine then some (.dct true (putT kvs κ k d)) else none
  | _, _ => none
/-- o[k] = d -/
def putS (o k d : D) (S : Sto) : Option Sto := match o with
  | .ref l => match S[l]? with
    | some ob => (putOb ob k d).map fun ob' => S.set l ob'
    | none => none
  | _ => none
section
variable {X : Cx} {ω : Om} {H : Hp} {S : Sto}
theorem RepK.any {κ : Key} : ∀ {kvs : List (D × D)} {ws : List (Key × V)}, RepK X.K X.mg ω H kvs ws → (kvs.any fun kv => decide (keyOf kv.1 = some κ)) = ws.any fun kv => decide (kv.1 = κ)
  | _, _, .nil => rfl
  | _, _, .cons h _ r => by rw [List.any_cons, List.any_cons, RepK.any r, h]; simp
theorem RepT.any {κ : List Key} : ∀ {kvs : List (D × D)} {ws : List (List Key × V)}, RepT X.K X.mg ω H kvs ws → (kvs.any fun kv => decide (tkeyOf kv.1 = some κ)) = ws.any fun kv => decide (kv.1 = κ)
  | _, _, .nil => rfl
  | _, _, .cons h _ r => by rw [List.any_cons, List.any_cons, RepT.any r, h]; simp
theorem RepK.mapv {κ : Key} {d : D} {v : V} (rd : Rep X.K X.mg ω H d v) : ∀ {kvs : List (D × D)} {ws : List (Key × V)}, RepK X.K X.mg ω H kvs ws → RepK X.K X.mg ω H (kvs.map fun kv => if keyOf kv.1 = some κ then (kv.1, d) else kv) (ws.map fun kv => if kv.1 = κ then (kv.1, v) else kv)
  | _, _, .nil => .nil
  | _, _, @RepK.cons _ _ _ _ k e κ' u _ _ h q r => by
    simp only [List.map_cons]
    by_cases z : κ' = κ
    · rw [if_pos (by rw [h, z]), if_pos z]; exact .cons h rd (RepK.mapv rd r)
    · rw [if_neg (by rw [h]; exact fun e => z (Option.some.inj e)), if_neg z]; exact .cons h q (RepK.mapv rd r)
theorem RepT.mapv {κ : List Key} {d : D} {v : V} (rd : Rep X.K X.mg ω H d v) : ∀ {kvs : List (D × D)} {ws : List (List Key × V)}, RepT X.K X.mg ω H kvs ws → RepT X.K X.mg ω H (kvs.map fun kv => if tkeyOf kv.1 = some κ then (kv.1, d) else kv) (ws.map fun kv => if kv.1 = κ then (kv.1, v) else kv)
  | _, _, .nil => .nil
  | _, _, @RepT.cons _ _ _ _ k e κ' u _ _ h q r => by
    simp only [List.map_cons]
    by_cases z : κ' = κ
    · rw [if_pos (by rw [h, z]), if_pos z]; exact .cons h rd (RepT.mapv rd r)
    · rw [if_neg (by rw [h]; exact fun e => z (Option.some.inj e)), if_neg z]; exact .cons h q (RepT.mapv rd r)
theorem RepK.append : ∀ {as bs : List (D × D)} {us vs : List (Key × V)}, RepK X.K X.mg ω H as us → RepK X.K X.mg ω H bs vs → RepK X.K X.mg ω H (as ++ bs) (us ++ vs)
  | _, _, _, _, .nil, s => s
  | _, _, _, _, .cons h q r, s => .cons h q (RepK.append r s)
theorem RepT.append : ∀ {as bs : List (D × D)} {us vs : List (List Key × V)}, RepT X.K X.mg ω H as us → RepT X.K X.mg ω H bs vs → RepT X.K X.mg ω H (as ++ bs) (us ++ vs)
  | _, _, _, _, .nil, s => s
  | _, _, _, _, .cons h q r, s => .cons h q (RepT.append r s)
theorem RepK.length : ∀ {d : List (D × D)} {v : List (Key × V)}, RepK X.K X.mg ω H d v → d.length = v.length
  | _, _, .nil => rfl
  | _, _, .cons _ _ r => by simp [RepK.length r]
theorem RepT.length : ∀ {d : List (D × D)} {v : List (List Key × V)}, RepT X.K X.mg ω H d v → d.length = v.length
  | _, _, .nil => rfl
  | _, _, .cons _ _ r => by simp [RepT.length r]
theorem putL_rep {κ : Key} {k d : D} {v : V} {kvs : List (D × D)} {ws : List (Key × V)} (hk : keyOf k = some κ) (rd : Rep X.K X.mg ω H d v) (r : RepK X.K X.mg ω H kvs ws) : RepK X.K X.mg ω H (putL kvs κ k d) (putK ws κ v) := by
  unfold putL putK
  rw [r.any]
  split
  · exact r.mapv rd
  · exact r.append (.cons hk rd .nil)
theorem putT_rep {κ : List Key} {k d : D} {v : V} {kvs : List (D × D)} {ws : List (List Key × V)} (hk : tkeyOf k = some κ) (rd : Rep X.K X.mg ω H d v) (r : RepT X.K X.mg ω H kvs ws) : RepT X.K X.mg ω H (putT kvs κ k d) (putK ws κ v) := by
  unfold putT putK
  rw [r.any]
  split
  · exact r.mapv rd
  · exact r.append (.cons hk rd .nil)
/-- by values -/
def rPutD (K : PySem.W.Frag) (mg : Str → Option Value) : TSet := fun o i v H Q => ∃ ω od kd d S S', St0 K mg ω H S ∧ Rep K mg ω H od o ∧ Rep K mg ω H kd i ∧ Rep K mg ω H d v ∧ putS od kd d S = some S' ∧ ∀ H', Ext ω H ω H' → St0 K mg ω H' S' → Q H'
theorem put_all (hu : X.A.units + 1 < cLine) : PSet X (rPutD X.K X.mg) := by
  intro pins s σ H o i v ov iv u Q I ro ri rv ⟨ω, od, kd, d, S, S', st, r1, r2, r3, hp, q⟩
  unfold putS at hp
  split at hp
  · split at hp
    · rename_i l ob hl
      cases r1 with
      | ref hr =>
        obtain ⟨ob', hp', hS⟩ := Option.map_eq_some_iff.mp hp
        subst hS
        clear hp
        have hp := hp'
        clear hp'
        obtain ⟨o0, q0, r0⟩ := st.obs _ _ _ hl hr
        unfold putOb at hp
        split at hp
        · obtain ⟨j, hj, rfl⟩ := Option.map_eq_some_iff.mp hp
          cases r2
          cases r0 with
          | lst r0 =>
            obtain ⟨e, s'⟩ := st.put hr hl (.lst (r0.set j r3))
            exact set_list pins s σ H _ _ v ov iv u Q I ro ri rv ⟨_, _, _, j, rfl, rfl, q0, by rw [← r0.length]; exact hj, q _ e s'⟩
        · obtain ⟨κ, hk, hp2⟩ := Option.bind_eq_some_iff.mp hp
          split at hp2
          · rename_i hz
            cases hp2
            cases r0 with
            | dct r0 =>
              obtain ⟨e, s'⟩ := st.put hr hl (.dct (putL_rep hk r3 r0))
              rw [keyOf_is hk r2] at ri
              exact set_dict hu pins s σ H _ _ v ov iv u Q I ro ri rv ⟨_, _, rfl, DPut.k q0 (by rw [← r0.length]; exact hz), q _ e s'⟩
          · cases hp2
        · obtain ⟨κ, hk, hp2⟩ := Option.bind_eq_some_iff.mp hp
          split at hp2
          · rename_i hz
            cases hp2
            cases r0 with
            | dctT r0 =>
              obtain ⟨e, s'⟩ := st.put hr hl (.dctT (putT_rep hk r3 r0))
              obtain ⟨b, rfl, hb⟩ := tkeyOf_is hk r2
              exact set_dict hu pins s σ H _ _ v ov iv u Q I ro ri rv ⟨_, _, rfl, DPut.t q0 hb (by rw [← r0.length]; exact hz), q _ e s'⟩
          · cases hp2
        · cases hp
    · cases hp
  · cases hp
end
def orBadS : Option Sto → (Sto → Fl) → Fl
  | some S, k => k S
  | none, _ => .bad
def sPut (fo fi fv : Ev) : St' := fun ρ S => (fv ρ S).thenS ρ fun d S1 => (fo ρ S1).thenS ρ fun o S2 => (fi ρ S2).thenS ρ fun i S3 => orBadS (putS o i d S3) fun S4 => .nx ρ S4
section
variable {X : Cx} {W : WX} {o i e : Expr} {fo fi fv : Ev} {pos pos' : Pos}
theorem put_go {D' : Ends} {ω : Om} {H : Hp} {σ : St} {ρ : Fr} {S : Sto} {od id d : D} {x y v : V} (a : At X.K X.mg ω H σ ρ S) (r1 : Rep X.K X.mg ω H od x) (r2 : Rep X.K X.mg ω H id y) (r3 : Rep X.K X.mg ω H d v)
    (p : PostS X.K X.mg W ω H (orBadS (putS od id d S) fun S4 => .nx ρ S4) D') : rPutD X.K X.mg x y v H fun H3 => D'.nx σ H3 := by
  cases h : putS od id d S with
  | none => rw [h] at p; exact p.elim
  | some S' =>
    rw [h] at p
    exact ⟨ω, od, id, d, S, S', a.st, r1, r2, r3, h, fun H' e s => p σ ω H' e s (a.fr.keep a.st.ok e)⟩
theorem ds_put (hu : X.A.units + 1 < cLine) (ho : DE X W o fo) (hi : DE X W i fi) (hv : DE X W e fv) (hs : swapsWithSole [.Subscript o i pos'] e pos.line X.env = pure false) (hw : swappedStores [.Subscript o i pos'] e X.env = pure none) (h1 : (assignEach [.Subscript o i pos'] X.env).map (·.2) = [assign (.Subscript o i pos') X.env])
    (ha : ∀ v, assign (.Subscript o i pos') X.env v = (do
      let ov ← holding [v] (eval o X.env)
      let iv ← holding [v, ov] (eval i X.env)
      standAt pos'
      holding [v, ov, iv] (setItem ov iv v)
      release [v, ov, iv] [])) : DS X W (.Assign [.Subscript o i pos'] e pos) (sPut fo fi fv) :=
  PS.imp (ps_asg hv (pg_sub ho hi (put_all hu) ha) hs hw h1) fun D σ H ⟨ω, ρ, S, a, h⟩ => by
    refine tD_bindS a h fun d S1 v ω1 H1 e1 a1 r1 p1 => ?_
    refine tD_bindS a1 p1 fun od S2 x ω2 H2 e2 a2 r2 p2 => ?_
    refine tD_bindS a2 p2 fun id S3 y ω3 H3 e3 a3 r3 p3 => ?_
    exact put_go a3 (r2.keep a2.st.ok e3) r3 ((r1.keep a1.st.ok e2).keep a2.st.ok e3) p3
end
end PL
end
section
set_option Elab.async false
set_option linter.all false
set_option maxRecDepth 100000
set_option maxHeartbeats 4000000
set_option autoImplicit false
/-! Part k: repr, sorted: built-ins that read whole data. -/
namespace PL
open PySem L2

/-! ### data off which no list is read -/
mutual
def hasL : PyData → Bool
  | .list _ => true
  | .tuple xs => hasLA xs
  | .dict kvs => hasLK kvs
  | _ => false
def hasLA : List PyData → Bool
  | [] => false
  | x :: xs => hasL x || hasLA xs
def hasLK : List (PyData × PyData) → Bool
  | [] => false
  | (k, v) :: r => hasL k || hasL v || hasLK r
end
theorem hasLK_map : ∀ {kvs : List (PyData × PyData)}, hasLK kvs = false → hasLA (kvs.map (·.1)) = false ∧ hasLA (kvs.map (·.2)) = false
  | [], _ => ⟨rfl, rfl⟩
  | (k, v) :: r, h => by
    simp only [hasLK, Bool.or_eq_false_iff] at h
    obtain ⟨a, b⟩ := hasLK_map h.2
    exact ⟨by simp [hasLA, h.1.1, a], by simp [hasLA, h.1.2, b]⟩
section
variable {X : Cx} {pins : List (Addr × Obj)} {σ : St} {H : Hp} {s : Shared} {ω : Om} {S : Sto}
theorem readsAll_of2 {n : Nat} (ih : ∀ d p v u, toPy S n d = some p → Rep X.K X.mg ω H d v → RelV v u → ∃ as, Reads s.heap u p as ∧ (hasL p = false → sysModules ∉ as)) :
    ∀ {ds : List D} {ps : List PyData} {vs : List V} {us : List Value}, optAll (toPy S n) ds = some ps → Reps X.K X.mg ω H ds vs → Vals vs us → ∃ as, ReadsAll s.heap us ps as ∧ (hasLA ps = false → sysModules ∉ as)
  | [], ps, _, _, h, r, q => by
    cases r; cases q; cases h; exact ⟨_, .nil, fun _ => List.not_mem_nil⟩
  | d :: ds, ps, _, _, h, .cons r rs, .cons q qs => by
    unfold optAll at h
    split at h
    · rename_i x xs h1 h2
      cases h
      obtain ⟨as, a1, g1⟩ := ih d x _ _ h1 r q
      obtain ⟨bs, a2, g2⟩ := readsAll_of2 ih h2 rs qs
      refine ⟨_, .cons a1 a2, fun z => ?_⟩
      simp only [hasLA, Bool.or_eq_false_iff] at z
      exact fun m => (List.mem_append.mp m).elim (g1 z.1) (g2 z.2)
    · cases h
theorem reads_dct2 {n : Nat} (I : L2.Inv X pins σ H s) (ih : ∀ d p v u, toPy S n d = some p → Rep X.K X.mg ω H d v → RelV v u → ∃ as, Reads s.heap u p as ∧ (hasL p = false → sysModules ∉ as)) {kvs : List (D × D)} {ws : List (Key × V)} {a : Addr} {p : PyData}
    (h : dctPy (toPy S n) kvs = some p) (hh : Rd H a (.dK ws)) (r : RepK X.K X.mg ω H kvs ws) : ∃ as, Reads s.heap (.ref a) p as ∧ (hasL p = false → sysModules ∉ as) := by
  unfold dctPy at h
  split at h
  · split at h
    · rename_i ks vs h1 h2
      cases h
      obtain ⟨_, hm, us, kv, o, es, ep, e1, e2, e3, _, e5, _⟩ := hh.ok I.hok
      obtain ⟨r1, r2⟩ := repK_split r
      obtain ⟨q1, q2⟩ := pairs_vals e5
      have q3 := vals_snd kv
      rw [kv_keys kv] at r1
      obtain ⟨as, a1, g1⟩ := readsAll_of2 ih h1 r1 q2
      rw [← q1] at q3
      obtain ⟨bs, a2, g2⟩ := readsAll_of2 ih h2 r2 q3
      have hl : ks.length = vs.length := by
        have l1 := optAll_length h1
        have l2 := optAll_length h2
        simp at l1 l2
        omega
      obtain ⟨z1, z2⟩ := zip_map1 hl
      refine ⟨_, .dict e1 e2.1 e3 (by rw [z1]; exact a1) (by rw [z2]; exact a2), fun z => ?_⟩
      have z : hasLK (ks.zip vs) = false := by simpa [hasL] using z
      obtain ⟨b1, b2⟩ := hasLK_map z
      rw [z1] at b1
      rw [z2] at b2
      intro m
      rcases List.mem_append.mp m with m | m
      · rcases List.mem_cons.mp m with m | m
        · exact (beq_eq_false_iff_ne.mp hm) m.symm
        · exact g1 b1 m
      · exact g2 b2 m
    · cases h
  · cases h
theorem reads_dctT2 {n : Nat} (I : L2.Inv X pins σ H s) {kvs : List (D × D)} {ws : List (List Key × V)} {a : Addr} {p : PyData}
    (h : dctPy (toPy S n) kvs = some p) (hh : Rd H a (.dT ws)) (r : RepT X.K X.mg ω H kvs ws) : ∃ as, Reads s.heap (.ref a) p as ∧ (hasL p = false → sysModules ∉ as) := by
  unfold dctPy at h
  split at h
  · rename_i hk
    cases r with
    | nil =>
      simp [optAll] at h
      subst h
      obtain ⟨_, hm, xs, pr, o, es, ep, e1, e2, e3, e4, _⟩ := hh.ok I.hok
      cases pr
      have e5 : es.toList = [] := by simpa using e4
      refine ⟨_, .dict (kvs := []) e1 e2.1 e3 (by rw [e5]; exact .nil) (by rw [e5]; exact .nil), fun _ m => ?_⟩
      have m : sysModules = a := by simpa using m
      exact (beq_eq_false_iff_ne.mp hm) m.symm
    | @cons k d κ v ds vs h1 h2 h3 =>
      exfalso
      simp only [List.all_cons, Bool.and_eq_true] at hk
      cases k <;> simp [keyOf] at hk <;> simp [tkeyOf] at h1
  · cases h
theorem reads_of2 (I : L2.Inv X pins σ H s) (st : St0 X.K X.mg ω H S) : ∀ (n : Nat) (d : D) (p : PyData) (v : V) (u : Value), toPy S n d = some p → Rep X.K X.mg ω H d v → RelV v u → ∃ as, Reads s.heap u p as ∧ (hasL p = false → sysModules ∉ as)
  | _, .non, p, _, _, h, r, q => by simp [toPy] at h; subst h; cases r; cases q; exact ⟨_, .none, fun _ => List.not_mem_nil⟩
  | _, .bl b, p, _, _, h, r, q => by simp [toPy] at h; subst h; cases r; cases q; exact ⟨_, .bool b, fun _ => List.not_mem_nil⟩
  | _, .int b, p, _, _, h, r, q => by simp [toPy] at h; subst h; cases r; obtain ⟨t, rfl⟩ := q; exact ⟨_, .int b t, fun _ => List.not_mem_nil⟩
  | _, .str b, p, _, _, h, r, q => by simp [toPy] at h; subst h; cases r; obtain ⟨t, rfl⟩ := q; exact ⟨_, .str b t, fun _ => List.not_mem_nil⟩
  | 0, .tup _, _, _, _, h, _, _ => by simp [toPy] at h
  | 0, .lst _, _, _, _, h, _, _ => by simp [toPy] at h
  | 0, .scr _, _, _, _, h, _, _ => by simp [toPy] at h
  | 0, .ref _, _, _, _, h, _, _ => by simp [toPy] at h
  | 0, .dct _ _, _, _, _, h, _, _ => by simp [toPy] at h
  | n + 1, .tup xs, p, _, _, h, .tup hq r, q => by
    cases q
    simp only [toPy, Option.map_eq_some_iff] at h
    obtain ⟨ps, h, rfl⟩ := h
    obtain ⟨its, rv, ⟨o, ho, hc, m, hd⟩, _⟩ := I.tuple (SqT.of hq)
    obtain ⟨as, hr, g⟩ := readsAll_of2 (fun d p v u => reads_of2 I st n d p v u) h r rv
    exact ⟨_, Reads.tuple ho hc hd (by simpa using hr), fun z => g (by simpa [hasL] using z)⟩
  | n + 1, .lst xs, p, _, _, h, .lst hq r, q => by
    obtain ⟨as, hr⟩ := reads_of I st (n + 1) (.lst xs) p _ _ h (.lst hq r) q
    simp only [toPy, Option.map_eq_some_iff] at h
    obtain ⟨ps, h, rfl⟩ := h
    exact ⟨as, hr, fun z => by simp [hasL] at z⟩
  | n + 1, .scr xs, p, _, _, h, .scr hq r, q => by
    obtain ⟨as, hr⟩ := reads_of I st (n + 1) (.scr xs) p _ _ h (.scr hq r) q
    simp only [toPy, Option.map_eq_some_iff] at h
    obtain ⟨ps, h, rfl⟩ := h
    exact ⟨as, hr, fun z => by simp [hasL] at z⟩
  | n + 1, .dct _ kvs, p, _, _, h, .dct hq r, q => by
    cases q
    simp only [toPy] at h
    exact reads_dct2 I (fun d p v u => reads_of2 I st n d p v u) h hq.rd r
  | n + 1, .dct _ kvs, p, _, _, h, .dctT hq r, q => by
    cases q
    simp only [toPy] at h
    exact reads_dctT2 (n := n) I h hq.rd r
  | n + 1, .ref l, p, _, _, h, .ref hr, q => by
    cases q
    have h0 := h
    simp only [toPy] at h
    split at h
    · rename_i xs hl
      obtain ⟨as, hr⟩ := reads_of I st (n + 1) (.ref l) p _ _ h0 (.ref hr) rfl
      obtain ⟨ps, h, rfl⟩ := Option.map_eq_some_iff.mp h
      exact ⟨as, hr, fun z => by simp [hasL] at z⟩
    · rename_i t kvs hl
      obtain ⟨o, ho, r⟩ := st.obs _ _ _ hl hr
      cases r with
      | dct r => exact reads_dct2 I (fun d p v u => reads_of2 I st n d p v u) h (.inl ho) r
      | dctT r => exact reads_dctT2 (n := n) I h (.inl ho) r
    · cases h
  | _, .ins _ _, _, _, _, h, _, _ => by simp [toPy] at h
  | _, .glo _, _, _, _, h, _, _ => by simp [toPy] at h
  | _, .ty _, _, _, _, h, _, _ => by simp [toPy] at h
end

/-! ### repr -/
def reprOk (p : PyData) : Bool := p.showable && decide (p.shown.length ≤ sizeLine) && (!p.hasDict || !hasL p)
def reprD (ds : List D) (S : Sto) : Res D := match ds with
  | [d] => match toPy S 60 d with
    | some p => if reprOk p = true then .ok (.str p.shown) S else .bad
    | none => .bad
  | _ => .bad
theorem cd_repr {X : Cx} (hg : X.A.guards = some []) (hu : X.A.units + 130 < cLine) : CallD X (.builtin "repr") reprD := by
  intro pins s σ H xs us Q I r ⟨ω, ds, S, st, rr, p⟩
  unfold reprD at p
  split at p
  · split at p
    · rename_i pd hp
      split at p
      · rename_i hok
        simp only [reprOk, Bool.and_eq_true, decide_eq_true_eq, Bool.or_eq_true, Bool.not_eq_true'] at hok
        obtain ⟨⟨h1, h2⟩, h3⟩ := hok
        cases rr with
        | cons r1 r2 =>
        cases r2
        obtain ⟨u, rfl, ru⟩ := vals1 r
        obtain ⟨as, ra, g⟩ := reads_of2 I st 60 _ pd _ u hp r1 ru
        have hd := depth_of 60 _ pd hp
        have fin : ∀ (h' : Heap) (t : Tok) (tk : Nat), (∀ b o, s.heap.get? b = some o → h'.get? b = some o) → EP X pins σ Q (.str pd.shown t) { s with heap := h', toks := tk } := fun h' t tk hk =>
          ⟨.str pd.shown, H, I.kept (t' := tk) hk, ⟨t, rfl⟩, p.fin st (.str _)⟩
        have same : ∀ (t : Tok) (tk : Nat), EP X pins σ Q (.str pd.shown t) { s with toks := tk } := fun t tk => fin s.heap t tk fun _ _ e => e
        cases ra with
        | none => exact PySem.P.repr_of_none (same _ _)
        | bool b => exact PySem.P.repr_of_bool (same _ _)
        | int i t =>
          refine PySem.P.repr_of_int ?_ (same _ _)
          simpa [PyData.showable] using h1
        | str x t => exact PySem.P.repr_of_str (same _ _) (by simpa [PyData.shown] using h2)
        | list e1 e2 e3 e4 => exact repr_of_reads' (.list e1 e2 e3 e4) h1 (fun z => g (h3.elim (fun w => by rw [w] at z; cases z) id)) hg (by omega) (fun _ _ e => e) fin h2
        | tuple e1 e2 e3 e4 => exact repr_of_reads' (.tuple e1 e2 e3 e4) h1 (fun z => g (h3.elim (fun w => by rw [w] at z; cases z) id)) hg (by omega) (fun _ _ e => e) fin h2
        | dict e1 e2 e3 e4 e5 => exact repr_of_reads' (.dict e1 e2 e3 e4 e5) h1 (fun z => g (h3.elim (fun w => by rw [w] at z; cases z) id)) hg (by omega) (fun _ _ e => e) fin h2
      · exact p.elim
    · exact p.elim
  · exact p.elim
end PL
end
section
set_option Elab.async false
set_option linter.all false
set_option maxRecDepth 100000
set_option maxHeartbeats 4000000
set_option autoImplicit false
/-! Part l: built-in functions and types that are called. -/
namespace PL
open PySem L2

/-! ### calls that make a new object -/
section
variable (K : PySem.W.Frag) (mg : Str → Option Value)
def PostM (ω : Om) (H : Hp) (r : Res Ob) (Q : VK) : Prop :=
  match r with
  | .ok ob S => ∀ a o ω' H', Ext ω H ω' H' → St0 K mg ω' H' S → H a = none → H' a = some o → ObR K mg ω' H' ob o → a ∉ ω'.at_ → ¬ ω'.M a → Q (.ref a) H'
  | _ => False
def rNs (fn : List D → Sto → Res Ob) : List V → Hp → VK → Prop := fun xs H Q => ∃ ω ds S, St0 K mg ω H S ∧ Reps K mg ω H ds xs ∧ PostM K mg ω H (fn ds S) Q
end
def CallN (X : Cx) (f : Value) (fn : List D → Sto → Res Ob) : Prop := CallR X f (rNs X.K X.mg fn)
section
variable {K : PySem.W.Frag} {mg : Str → Option Value} {ω : Om} {H : Hp} {S : Sto} {Q : VK}
theorem PostM.fin {ob : Ob} {o : HO} (st : St0 K mg ω H S) (p : PostM K mg ω H (.ok ob S) Q) {q : Addr} (n : H q = none) (r : ObR K mg ω H ob o) : Q (.ref q) (upd H q o) :=
  p q o ω _ (ext_new n) (st_new st n) n upd_same (r.keep st.ok (ext_new n)) (fresh_at st.ok n) (fun hm => by obtain ⟨o', h⟩ := st.ok.imm q hm; rw [n] at h; cases h)
end
def eBf (fn : List D → Sto → Res D) (F : EvL) : Ev := fun ρ S => (F ρ S).bind fun ds S1 => match fn ds S1 with
  | .ok d S2 => .ok d S2
  | _ => .bad
def nBf (fn : List D → Sto → Res Ob) (F : EvL) : EvN := fun ρ S => (F ρ S).bind fun ds S1 => match fn ds S1 with
  | .ok d S2 => .ok d S2
  | _ => .bad
theorem tDA_bindN {K : PySem.W.Frag} {mg : Str → Option Value} {W : WX} {ω : Om} {H : Hp} {σ : St} {ρ : Fr} {S : Sto} {f : EvL} {k : List D → Sto → Res Ob} {Q : VK} {R : List V → Hp → Prop} (a : At K mg ω H σ ρ S) (p : PostN K mg W ω H σ ((f ρ S).bind k) Q)
    (hk : ∀ d S1 v ω1 H1, Ext ω H ω1 H1 → At K mg ω1 H1 σ ρ S1 → Reps K mg ω1 H1 d v → PostN K mg W ω1 H1 σ (k d S1) Q → R v H1) : tDA K mg W f σ H R :=
  tDA_go a (fun d S1 q v ω1 H1 e a1 r => hk d S1 v ω1 H1 e a1 r (by rw [q] at p; exact p.sh e)) (fun x S1 q => by rw [q] at p; exact p) fun q => by rw [q] at p; exact p
theorem tD_bindN {K : PySem.W.Frag} {mg : Str → Option Value} {W : WX} {ω : Om} {H : Hp} {σ : St} {ρ : Fr} {S : Sto} {f : Ev} {k : D → Sto → Res Ob} {Q : VK} {R : VK} (a : At K mg ω H σ ρ S) (p : PostN K mg W ω H σ ((f ρ S).bind k) Q)
    (hk : ∀ d S1 v ω1 H1, Ext ω H ω1 H1 → At K mg ω1 H1 σ ρ S1 → Rep K mg ω1 H1 d v → PostN K mg W ω1 H1 σ (k d S1) Q → R v H1) : tD K mg W f σ H R :=
  tD_go a (fun d S1 q v ω1 H1 e a1 r => hk d S1 v ω1 H1 e a1 r (by rw [q] at p; exact p.sh e)) (fun x S1 q => by rw [q] at p; exact p) fun q => by rw [q] at p; exact p
section
variable {X : Cx} {W : WX} {e : Expr} {es : List Expr} {F : EvL} {x : Str} {p pos : Pos} {id T : String} {fn : List D → Sto → Res D} {fo : List D → Sto → Res Ob}
theorem bf_rd {σ : St} {H : Hp} {Q : VK} (h : tD X.K X.mg W (eBf fn F) σ H Q) : tCB (rBs X.K X.mg fn) (tDA X.K X.mg W F) σ H Q := by
  obtain ⟨ω, ρ, S, a, q⟩ := h
  refine tDA_bind a q fun ds S1 vs ω1 H1 e1 a1 r1 q1 => ⟨ω1, ds, S1, a1.st, r1, ?_⟩
  cases hf : fn ds S1 with
  | ok d S2 => rw [hf] at q1; exact q1
  | ex z S2 => rw [hf] at q1; exact q1
  | bad => rw [hf] at q1; exact q1
theorem bn_rd {σ : St} {H : Hp} {Q : VK} (h : tDN X.K X.mg W (nBf fo F) σ H Q) : tCB (rNs X.K X.mg fo) (tDA X.K X.mg W F) σ H Q := by
  obtain ⟨ω, ρ, S, a, q⟩ := h
  refine tDA_bindN a q fun ds S1 vs ω1 H1 e1 a1 r1 q1 => ⟨ω1, ds, S1, a1.st, r1, ?_⟩
  cases hf : fo ds S1 with
  | ok d S2 => rw [hf] at q1; exact q1
  | ex z S2 => rw [hf] at q1; exact q1
  | bad => rw [hf] at q1; exact q1
theorem de_bf (hc : CallD X (.builtin id) fn) (hg : Gl X x) (hm : X.mg x = none) (hv : bootBuiltins x = some (.builtin id)) (ha : DA X W (e :: es) F) (hn : x ≠ "__name__") (hdb : (x == ("__debug__" : Str)) = false)
    (he : starEach (e :: es) X.env = (false, eval e X.env) :: starEach es X.env) (hpl : (backTo pos (starEach es X.env)).any (·.1) = false) : DE X W (.Call (.Name x p) (e :: es) [] pos) (eBf fn F) :=
  PE.imp (pe_callB hc hg hm hv ha hn hdb he hpl) fun _ _ _ h => bf_rd h
theorem de_bt (hc : CallD X (.type T) fn) (hg : Gl X x) (hm : X.mg x = none) (hv : bootBuiltins x = some (.type T)) (ha : DA X W (e :: es) F) (hn : x ≠ "__name__") (hdb : (x == ("__debug__" : Str)) = false)
    (he : starEach (e :: es) X.env = (false, eval e X.env) :: starEach es X.env) (hpl : (backTo pos (starEach es X.env)).any (·.1) = false) : DE X W (.Call (.Name x p) (e :: es) [] pos) (eBf fn F) :=
  PE.imp (pe_callTy hc hg hm hv ha hn hdb he hpl) fun _ _ _ h => bf_rd h
theorem dn_bf (hc : CallN X (.builtin id) fo) (hg : Gl X x) (hm : X.mg x = none) (hv : bootBuiltins x = some (.builtin id)) (ha : DA X W (e :: es) F) (hn : x ≠ "__name__") (hdb : (x == ("__debug__" : Str)) = false)
    (he : starEach (e :: es) X.env = (false, eval e X.env) :: starEach es X.env) (hpl : (backTo pos (starEach es X.env)).any (·.1) = false) : DN X W (.Call (.Name x p) (e :: es) [] pos) (nBf fo F) :=
  PE.imp (pe_callB hc hg hm hv ha hn hdb he hpl) fun _ _ _ h => bn_rd h
theorem dn_bt (hc : CallN X (.type T) fo) (hg : Gl X x) (hm : X.mg x = none) (hv : bootBuiltins x = some (.type T)) (ha : DA X W (e :: es) F) (hn : x ≠ "__name__") (hdb : (x == ("__debug__" : Str)) = false)
    (he : starEach (e :: es) X.env = (false, eval e X.env) :: starEach es X.env) (hpl : (backTo pos (starEach es X.env)).any (·.1) = false) : DN X W (.Call (.Name x p) (e :: es) [] pos) (nBf fo F) :=
  PE.imp (pe_callTy hc hg hm hv ha hn hdb he hpl) fun _ _ _ h => bn_rd h
end

/-! ### the functions -/
theorem callD_of {X : Cx} {f : Value} {fn : List D → Sto → Res D} (h : ∀ (pins : List (Addr × Obj)) (s : Shared) (σ : St) (H : Hp) (xs : List V) (us : List Value) (Q : VK) (ω : Om) (ds : List D) (S : Sto), L2.Inv X pins σ H s → Vals xs us → St0 X.K X.mg ω H S →
    Reps X.K X.mg ω H ds xs → PostB X.K X.mg ω H (fn ds S) Q → wpAny (model X.prog X.w) X.A (call f us) (EP X pins σ Q) X.xe s) : CallD X f fn :=
  fun pins s σ H xs us Q I r ⟨ω, ds, S, st, rr, p⟩ => h pins s σ H xs us Q ω ds S I r st rr p
theorem callN_of {X : Cx} {f : Value} {fn : List D → Sto → Res Ob} (h : ∀ (pins : List (Addr × Obj)) (s : Shared) (σ : St) (H : Hp) (xs : List V) (us : List Value) (Q : VK) (ω : Om) (ds : List D) (S : Sto), L2.Inv X pins σ H s → Vals xs us → St0 X.K X.mg ω H S →
    Reps X.K X.mg ω H ds xs → PostM X.K X.mg ω H (fn ds S) Q → wpAny (model X.prog X.w) X.A (call f us) (EP X pins σ Q) X.xe s) : CallN X f fn :=
  fun pins s σ H xs us Q I r ⟨ω, ds, S, st, rr, p⟩ => h pins s σ H xs us Q ω ds S I r st rr p
/-- len of a dict that may be locked -/
theorem call_lenR {X : Cx} : CallR X (.builtin "len") (fun xs H Q => ∃ a kvs, xs = [V.ref a] ∧ Rd H a (.dK kvs) ∧ Q (.int kvs.length) H) := by
  intro pins s σ H xs us Q I r h
  obtain ⟨a, kvs, rfl, ha, q⟩ := h
  obtain ⟨u, rfl, ru⟩ := vals1 r
  cases ru
  exact d_len I ha fun t s' I' => ⟨.int kvs.length, H, I', ⟨t, rfl⟩, q⟩
theorem call_len_dTR {X : Cx} : CallR X (.builtin "len") (fun xs H Q => ∃ (p : Addr) (kvs : List (List Key × V)), xs = [.ref p] ∧ Rd H p (.dT kvs) ∧ Q (.int ((kvs.length : Nat) : Int)) H) := by
  intro pins s σ H xs us Q I r h
  obtain ⟨p, kvs, rfl, hp, q⟩ := h
  obtain ⟨u, rfl, rx⟩ := vals1 r
  obtain rfl : u = .ref p := rx
  obtain ⟨z, hd, ys, rel, dd⟩ := dt_rd I.hok hp
  have hl : kvs.length = ys.length := Paired.length rel
  refine call_len_dictH hd dd (by rw [← hl]; rw [sizeLine_eq] at z; omega) ?_
  rw [← hl]
  exact ⟨.int ((kvs.length : Nat) : Int), H, I.tok _, ⟨_, rfl⟩, q⟩
def lenOf (S : Sto) (d : D) : Option Nat := match seqOf S d with
  | some xs => some xs.length
  | none => match d with
    | .str z => if lenFits z.length = true then some z.length else none
    | d => (dctOf S d).map fun p => p.2.length
def lenD (ds : List D) (S : Sto) : Res D := match ds with
  | [d] => match lenOf S d with
    | some n => .ok (.int n) S
    | none => .bad
  | _ => .bad
def absD (ds : List D) (S : Sto) : Res D := match ds with
  | [.int i] => .ok (.int (if i < 0 then -i else i)) S
  | _ => .bad
def intsOf : List D → Option (List Int)
  | [] => some []
  | .int i :: r => (intsOf r).map fun is => i :: is
  | _ :: _ => none
def maxI (i : Int) (is : List Int) : Int := is.foldl (fun m j => if j > m then j else m) i
def minI (i : Int) (is : List Int) : Int := is.foldl (fun m j => if j < m then j else m) i
def maxD (ds : List D) (S : Sto) : Res D := match ds with
  | [.int i, .int j] => .ok (.int (if j > i then j else i)) S
  | [d] => match (seqOf S d).bind intsOf, isL S d with
    | some (i :: is), true => .ok (.int (maxI i is)) S
    | _, _ => .bad
  | _ => .bad
def minD (ds : List D) (S : Sto) : Res D := match ds with
  | [.int i, .int j] => .ok (.int (if j < i then j else i)) S
  | [d] => match (seqOf S d).bind intsOf, isL S d with
    | some (i :: is), true => .ok (.int (minI i is)) S
    | _, _ => .bad
  | _ => .bad
def sumD (ds : List D) (S : Sto) : Res D := match ds with
  | [d] => match (seqOf S d).bind intsOf, isL S d with
    | some is, true => .ok (.int is.sum) S
    | _, _ => .bad
  | _ => .bad
def intD (ds : List D) (S : Sto) : Res D := match ds with
  | [.int i] => .ok (.int i) S
  | [.bl b] => .ok (.int (if b = true then 1 else 0)) S
  | _ => .bad
def boolD (ds : List D) (S : Sto) : Res D := match ds with
  | [.int i] => .ok (.bl (i != 0)) S
  | [.bl b] => .ok (.bl b) S
  | _ => .bad
def blsOf : List D → Option (List Bool)
  | [] => some []
  | .bl i :: r => (blsOf r).map fun is => i :: is
  | _ :: _ => none
def strsOf : List D → Option (List Str)
  | [] => some []
  | .str i :: r => (strsOf r).map fun is => i :: is
  | _ :: _ => none
def allD (ds : List D) (S : Sto) : Res D := match ds with
  | [d] => match (seqOf S d).bind blsOf, isL S d with
    | some bs, true => .ok (.bl (bs.all id)) S
    | _, _ => .bad
  | _ => .bad
def anyD (ds : List D) (S : Sto) : Res D := match ds with
  | [d] => match (seqOf S d).bind blsOf, isL S d with
    | some bs, true => .ok (.bl (bs.any id)) S
    | _, _ => .bad
  | _ => .bad
def tupleD (ds : List D) (S : Sto) : Res D := match ds with
  | [d] => match seqOf S d with
    | some xs => .ok (.tup xs) S
    | none => .bad
  | _ => .bad
def listN (ds : List D) (S : Sto) : Res Ob := match ds with
  | [d] => match seqOf S d with
    | some xs => .ok (.lst xs) S
    | none => .bad
  | _ => .bad
/-- the name of a value's type, where it is a built-in one -/
def tyS (S : Sto) : D → Option String
  | .non => some "NoneType"
  | .bl _ => some "bool"
  | .int _ => some "int"
  | .str _ => some "str"
  | .tup _ => some "tuple"
  | .lst _ => some "list"
  | .scr _ => some "list"
  | .dct _ _ => some "dict"
  | .ref l => match S[l]? with
    | some (.lst _) => some "list"
    | some (.dct _ _) => some "dict"
    | _ => none
  | _ => none
def isTys : List String := ["NoneType", "bool", "int", "str", "tuple", "list", "dict"]
def subTy (a b : String) : Bool := a == b || (a == "bool" && b == "int")
def isiD (ds : List D) (S : Sto) : Res D := match ds with
  | [d, .ty n] => match tyS S d with
    | some t => if isTys.contains n = true then .ok (.bl (subTy t n)) S else .bad
    | none => .bad
  | _ => .bad
def strD (ds : List D) (S : Sto) : Res D := match ds with
  | [.str x] => .ok (.str x) S
  | [.int i] => if i.natAbs.log2 < 1920 then .ok (.str (toString i)) S else .bad
  | _ => .bad

section
variable {K : PySem.W.Frag} {mg : Str → Option Value} {ω : Om} {H : Hp} {S : Sto}
theorem intsOf_rep : ∀ {ds : List D} {is : List Int} {vs : List V}, intsOf ds = some is → Reps K mg ω H ds vs → vs = is.map V.int
  | [], is, vs, h, r => by cases r; cases h; rfl
  | d :: ds, is, vs, h, r => by
    cases r with
    | cons r rs =>
      cases d <;> simp only [intsOf] at h <;> try cases h
      obtain ⟨js, h2, rfl⟩ := Option.map_eq_some_iff.mp h
      cases r
      rw [intsOf_rep h2 rs]; rfl
theorem blsOf_rep : ∀ {ds : List D} {is : List Bool} {vs : List V}, blsOf ds = some is → Reps K mg ω H ds vs → vs = is.map V.bl
  | [], is, vs, h, r => by cases r; cases h; rfl
  | d :: ds, is, vs, h, r => by
    cases r with
    | cons r rs =>
      cases d <;> simp only [blsOf] at h <;> try cases h
      obtain ⟨js, h2, rfl⟩ := Option.map_eq_some_iff.mp h
      cases r
      rw [blsOf_rep h2 rs]; rfl
theorem strsOf_rep : ∀ {ds : List D} {is : List Str} {vs : List V}, strsOf ds = some is → Reps K mg ω H ds vs → vs = is.map V.str
  | [], is, vs, h, r => by cases r; cases h; rfl
  | d :: ds, is, vs, h, r => by
    cases r with
    | cons r rs =>
      cases d <;> simp only [strsOf] at h <;> try cases h
      obtain ⟨js, h2, rfl⟩ := Option.map_eq_some_iff.mp h
      cases r
      rw [strsOf_rep h2 rs]; rfl
/-- a list's items where the value is a list -/
theorem seqL_rep {d : D} {v : V} {xs : List D} (st : St0 K mg ω H S) (h : seqOf S d = some xs) (hl : isL S d = true) (r : Rep K mg ω H d v) : ∃ a vs, v = .ref a ∧ SqL K H a vs ∧ Reps K mg ω H xs vs := by
  obtain ⟨a, vs, rfl, hv, rr⟩ := seqOf_rep st h r
  rcases hv with hv | hv
  · exact ⟨a, vs, rfl, hv, rr⟩
  · cases d <;> simp [isL] at hl
    · cases r with
      | lst hq r => exact ⟨a, _, rfl, SqL.of hq.lst, by simp [seqOf, listOf] at h; subst h; exact r⟩
    · cases r with
      | scr hq r => exact ⟨a, _, rfl, hq.sq, by simp [seqOf, listOf] at h; subst h; exact r⟩
    · rename_i l
      have h' : listOf S (.ref l) = some xs := h
      obtain ⟨a', vs', e, hv', rr'⟩ := listOf_rep st h' r
      cases e
      exact ⟨a, vs', rfl, SqL.of hv', rr'⟩
theorem foldMax_mem : ∀ (is : List Int) (i : Int), maxI i is ∈ i :: is ∧ ∀ y ∈ i :: is, y ≤ maxI i is
  | [], i => ⟨by simp [maxI], by simp [maxI]⟩
  | j :: is, i => by
    have h := foldMax_mem is (if j > i then j else i)
    have e : maxI i (j :: is) = maxI (if j > i then j else i) is := rfl
    rw [e]
    by_cases z : j > i
    · rw [if_pos z] at h ⊢
      have hb := h.2 j (List.mem_cons_self ..)
      refine ⟨List.mem_cons_of_mem _ h.1, fun y hy => ?_⟩
      rcases List.mem_cons.mp hy with q | q
      · rw [q]; omega
      · exact h.2 y q
    · rw [if_neg z] at h ⊢
      have hb := h.2 i (List.mem_cons_self ..)
      refine ⟨?_, fun y hy => ?_⟩
      · rcases List.mem_cons.mp h.1 with q | q
        · exact List.mem_cons.mpr (.inl q)
        · exact List.mem_cons_of_mem _ (List.mem_cons_of_mem _ q)
      · rcases List.mem_cons.mp hy with q | q
        · rw [q]; exact hb
        · rcases List.mem_cons.mp q with q | q
          · rw [q]; omega
          · exact h.2 y (List.mem_cons_of_mem _ q)
theorem foldMin_mem : ∀ (is : List Int) (i : Int), minI i is ∈ i :: is ∧ ∀ y ∈ i :: is, minI i is ≤ y
  | [], i => ⟨by simp [minI], by simp [minI]⟩
  | j :: is, i => by
    have h := foldMin_mem is (if j < i then j else i)
    have e : minI i (j :: is) = minI (if j < i then j else i) is := rfl
    rw [e]
    by_cases z : j < i
    · rw [if_pos z] at h ⊢
      have hb := h.2 j (List.mem_cons_self ..)
      refine ⟨List.mem_cons_of_mem _ h.1, fun y hy => ?_⟩
      rcases List.mem_cons.mp hy with q | q
      · rw [q]; omega
      · exact h.2 y q
    · rw [if_neg z] at h ⊢
      have hb := h.2 i (List.mem_cons_self ..)
      refine ⟨?_, fun y hy => ?_⟩
      · rcases List.mem_cons.mp h.1 with q | q
        · exact List.mem_cons.mpr (.inl q)
        · exact List.mem_cons_of_mem _ (List.mem_cons_of_mem _ q)
      · rcases List.mem_cons.mp hy with q | q
        · rw [q]; exact hb
        · rcases List.mem_cons.mp q with q | q
          · rw [q]; omega
          · exact h.2 y (List.mem_cons_of_mem _ q)
end
section
variable {X : Cx}
theorem cd_len : CallD X (.builtin "len") lenD := callD_of fun pins s σ H xs us Q ω ds S I r st rr p => by
  unfold lenD at p
  split at p
  · split at p
    · rename_i n hn
      cases rr with
      | cons r1 r2 =>
      cases r2
      unfold lenOf at hn
      split at hn
      · rename_i zs hz
        cases hn
        obtain ⟨a, vs, rfl, hv, r3⟩ := seqOf_rep st hz r1
        refine call_len pins s σ H _ us Q I r ⟨_, _, rfl, ?_, p.fin st (.int _)⟩
        rcases hv with hv | hv
        · exact .inl ⟨vs, hv, r3.length⟩
        · exact .inr ⟨vs, hv, r3.length⟩
      · split at hn
        · split at hn
          · rename_i hl
            cases hn
            cases r1
            exact call_len pins s σ H _ us Q I r ⟨_, _, rfl, ⟨lenFits_le hl, rfl⟩, p.fin st (.int _)⟩
          · cases hn
        · obtain ⟨⟨t, kvs⟩, hd, rfl⟩ := Option.map_eq_some_iff.mp hn
          obtain ⟨a, rfl, ⟨_, ws, ha, rw'⟩ | ⟨_, ws, ha, rw'⟩⟩ := dctOf_rep st hd r1
          · refine call_lenR pins s σ H _ us Q I r ⟨_, ws, rfl, ha, ?_⟩
            have := p.fin st (.int _)
            rwa [show ((kvs.length : Nat) : Int) = ((ws.length : Nat) : Int) by rw [rw'.length]] at this
          · refine call_len_dTR pins s σ H _ us Q I r ⟨_, ws, rfl, ha, ?_⟩
            have := p.fin st (.int _)
            rwa [show ((kvs.length : Nat) : Int) = ((ws.length : Nat) : Int) by rw [rw'.length]] at this
    · exact p.elim
  · exact p.elim
theorem cd_abs : CallD X (.builtin "abs") absD := callD_of fun pins s σ H xs us Q ω ds S I r st rr p => by
  unfold absD at p
  split at p
  · cases rr with
    | cons r1 r2 =>
    cases r2; cases r1
    exact call_abs pins s σ H _ us Q I r ⟨_, rfl, p.fin st (.int _)⟩
  · exact p.elim
theorem cd_max (hc : X.calm = true) : CallD X (.builtin "max") maxD := callD_of fun pins s σ H xs us Q ω ds S I r st rr p => by
  unfold maxD at p
  split at p
  · cases rr with
    | cons r1 r2 =>
    cases r2 with
    | cons r2 r3 =>
    cases r3; cases r1; cases r2
    exact call_max2 hc pins s σ H _ us Q I r ⟨_, _, rfl, p.fin st (.int _)⟩
  · split at p
    · rename_i i is h1 h2
      obtain ⟨zs, h1, h3⟩ := Option.bind_eq_some_iff.mp h1
      cases rr with
      | cons r1 r2 =>
      cases r2
      obtain ⟨a, vs, rfl, hv, rz⟩ := seqL_rep st h1 h2 r1
      have e := intsOf_rep h3 rz
      subst e
      obtain ⟨m1, m2⟩ := foldMax_mem is i
      refine cr_max hc pins s σ H _ us Q I r ⟨a, i :: is, rfl, hv, by simp, fun m hm hb => ?_⟩
      have : m = maxI i is := Int.le_antisymm (m2 m hm) (hb _ m1)
      rw [this]
      exact p.fin st (.int _)
    · exact p.elim
  · exact p.elim
theorem cd_min (hc : X.calm = true) : CallD X (.builtin "min") minD := callD_of fun pins s σ H xs us Q ω ds S I r st rr p => by
  unfold minD at p
  split at p
  · cases rr with
    | cons r1 r2 =>
    cases r2 with
    | cons r2 r3 =>
    cases r3; cases r1; cases r2
    exact call_min2 hc pins s σ H _ us Q I r ⟨_, _, rfl, p.fin st (.int _)⟩
  · split at p
    · rename_i i is h1 h2
      obtain ⟨zs, h1, h3⟩ := Option.bind_eq_some_iff.mp h1
      cases rr with
      | cons r1 r2 =>
      cases r2
      obtain ⟨a, vs, rfl, hv, rz⟩ := seqL_rep st h1 h2 r1
      have e := intsOf_rep h3 rz
      subst e
      obtain ⟨m1, m2⟩ := foldMin_mem is i
      refine cr_min hc pins s σ H _ us Q I r ⟨a, i :: is, rfl, hv, by simp, fun m hm hb => ?_⟩
      have : m = minI i is := Int.le_antisymm (hb _ m1) (m2 m hm)
      rw [this]
      exact p.fin st (.int _)
    · exact p.elim
  · exact p.elim
theorem cd_sum (hc : X.calm = true) : CallD X (.builtin "sum") sumD := callD_of fun pins s σ H xs us Q ω ds S I r st rr p => by
  unfold sumD at p
  split at p
  · split at p
    · rename_i is h1 h2
      obtain ⟨zs, h1, h3⟩ := Option.bind_eq_some_iff.mp h1
      cases rr with
      | cons r1 r2 =>
      cases r2
      obtain ⟨a, vs, rfl, hv, rz⟩ := seqL_rep st h1 h2 r1
      have e := intsOf_rep h3 rz
      subst e
      exact cr_sum hc pins s σ H _ us Q I r ⟨a, is, rfl, hv, p.fin st (.int _)⟩
    · exact p.elim
  · exact p.elim
theorem cd_all (hc : X.calm = true) : CallD X (.builtin "all") allD := callD_of fun pins s σ H xs us Q ω ds S I r st rr p => by
  unfold allD at p
  split at p
  · split at p
    · rename_i is h1 h2
      obtain ⟨zs, h1, h3⟩ := Option.bind_eq_some_iff.mp h1
      cases rr with
      | cons r1 r2 =>
      cases r2
      obtain ⟨a, vs, rfl, hv, rz⟩ := seqL_rep st h1 h2 r1
      have e := blsOf_rep h3 rz
      subst e
      exact cr_all hc pins s σ H _ us Q I r ⟨a, is, rfl, hv, p.fin st (.bl _)⟩
    · exact p.elim
  · exact p.elim
theorem cd_any (hc : X.calm = true) : CallD X (.builtin "any") anyD := callD_of fun pins s σ H xs us Q ω ds S I r st rr p => by
  unfold anyD at p
  split at p
  · split at p
    · rename_i is h1 h2
      obtain ⟨zs, h1, h3⟩ := Option.bind_eq_some_iff.mp h1
      cases rr with
      | cons r1 r2 =>
      cases r2
      obtain ⟨a, vs, rfl, hv, rz⟩ := seqL_rep st h1 h2 r1
      have e := blsOf_rep h3 rz
      subst e
      exact cr_any hc pins s σ H _ us Q I r ⟨a, is, rfl, hv, p.fin st (.bl _)⟩
    · exact p.elim
  · exact p.elim
theorem cd_int : CallD X (.type "int") intD := callD_of fun pins s σ H xs us Q ω ds S I r st rr p => by
  unfold intD at p
  split at p
  · cases rr with
    | cons r1 r2 =>
    cases r2; cases r1
    exact call_int1 pins s σ H _ us Q I r (.inl ⟨_, rfl, p.fin st (.int _)⟩)
  · rename_i b
    cases rr with
    | cons r1 r2 =>
    cases r2; cases r1
    refine call_int1 pins s σ H _ us Q I r (.inr ⟨b, rfl, ?_⟩)
    have := p.fin st (.int _)
    cases b <;> exact this
  · exact p.elim
theorem cd_bool : CallD X (.type "bool") boolD := callD_of fun pins s σ H xs us Q ω ds S I r st rr p => by
  unfold boolD at p
  split at p
  · cases rr with
    | cons r1 r2 =>
    cases r2; cases r1
    exact call_bool1 pins s σ H _ us Q I r (.inl ⟨_, rfl, p.fin st (.bl _)⟩)
  · cases rr with
    | cons r1 r2 =>
    cases r2; cases r1
    exact call_bool1 pins s σ H _ us Q I r (.inr ⟨_, rfl, p.fin st (.bl _)⟩)
  · exact p.elim
theorem cd_str : CallD X (.type "str") strD := callD_of fun pins s σ H xs us Q ω ds S I r st rr p => by
  unfold strD at p
  split at p
  · cases rr with
    | cons r1 r2 =>
    cases r2; cases r1
    exact SkE.call_str_str pins s σ H _ us Q I r ⟨_, rfl, p.fin st (.str _)⟩
  · split at p
    · rename_i hz
      cases rr with
      | cons r1 r2 =>
      cases r2; cases r1
      exact call_str_int pins s σ H _ us Q I r ⟨_, rfl, hz, p.fin st (.str _)⟩
    · exact p.elim
  · exact p.elim
theorem cd_tuple : CallD X (.type "tuple") tupleD := callD_of fun pins s σ H xs us Q ω ds S I r st rr p => by
  unfold tupleD at p
  split at p
  · split at p
    · rename_i zs hz
      cases rr with
      | cons r1 r2 =>
      cases r2
      rename_i d _ _
      by_cases hd : ∃ ys, d = .tup ys
      · obtain ⟨ys, rfl⟩ := hd
        cases r1 with
        | tup hq rz =>
          simp [seqOf] at hz
          subst hz
          exact call_tuple_of pins s σ H _ us Q I r ⟨_, _, rfl, .inr ⟨SqT.of hq, p.fin st (.tup hq rz)⟩⟩
      · have hl : isL S d = true := by
          cases d <;> simp [seqOf, listOf] at hz <;> first | rfl | (exfalso; exact hd ⟨_, rfl⟩)
        obtain ⟨a, vs, rfl, hv, rz⟩ := seqL_rep st hz hl r1
        exact call_tuple_of pins s σ H _ us Q I r ⟨a, vs, rfl, .inl ⟨hv, fun l n => p.finT st rz n⟩⟩
    · exact p.elim
  · exact p.elim
theorem cn_list : CallN X (.type "list") listN := callN_of fun pins s σ H xs us Q ω ds S I r st rr p => by
  unfold listN at p
  split at p
  · split at p
    · rename_i zs hz
      cases rr with
      | cons r1 r2 =>
      cases r2
      obtain ⟨a, vs, rfl, hv, r3⟩ := seqOf_rep st hz r1
      exact call_list_of pins s σ H _ us Q I r ⟨a, vs, rfl, hv, fun l n => p.fin st n (.lst r3)⟩
    · exact p.elim
  · exact p.elim
theorem kit_tab {K : PySem.W.Frag} : ∀ a ∈ isTys, ∀ b ∈ isTys, PySem.W.kitOne K (.type a) (.type b) = some (subTy a b) := by
  intro a ha b hb
  refine kit_ty ?_
  have h : (isTys.all fun a => isTys.all fun b => kitB a b == some (subTy a b)) = true := by decide +kernel
  have := List.all_eq_true.mp (List.all_eq_true.mp h a ha) b hb
  exact eq_of_beq this
theorem tyS_in {S : Sto} {d : D} {t : String} (h : tyS S d = some t) : t ∈ isTys := by
  cases d <;> simp only [tyS] at h
  case ref l =>
    split at h
    · cases h; simp [isTys]
    · cases h; simp [isTys]
    · cases h
  all_goals first
    | (cases h; done)
    | (cases h; simp [isTys])
theorem tyS_x {ω : Om} {H : Hp} {S : Sto} {d : D} {v : V} {t : String} (st : St0 X.K X.mg ω H S) (h : tyS S d = some t) (r : Rep X.K X.mg ω H d v) : TyX X.K H v (.type t) := by
  cases d <;> simp only [tyS] at h
  · cases h; cases r; exact .base .non
  · cases h; cases r; exact .base (.bl _)
  · cases h; cases r; exact .base (.int _)
  · cases h; cases r; exact .base (.str _)
  · cases h; cases r with
    | tup hq _ => exact .base (.tup hq)
  · cases h; cases r with
    | lst hq _ => exact .base (.lst hq.lst)
  · cases h; cases r with
    | scr hq _ =>
      rcases hq with ⟨ob, hq⟩ | ⟨o, its, n, h1, h2, _⟩
      · exact .base (.frz hq)
      · exact .kList h1 h2
  · cases h; cases r with
    | dct hq _ => exact hq.rd.elim (fun z => .base (.dK z)) fun ⟨_, z⟩ => .fDict z
    | dctT hq _ => exact .base (.dT hq.dT)
  · cases h
  · split at h
    · rename_i l xs hl
      cases h; cases r with
      | ref hr =>
        obtain ⟨o, ho, r⟩ := st.obs _ _ _ hl hr
        cases r with
        | lst r => exact .base (.lst ho)
    · rename_i l t kvs hl
      cases h; cases r with
      | ref hr =>
        obtain ⟨o, ho, r⟩ := st.obs _ _ _ hl hr
        cases r with
        | dct r => exact .base (.dK ho)
        | dctT r => exact .base (.dT ho)
    · cases h
  · cases h
  · cases h
theorem cd_isi : CallD X (.builtin "isinstance") isiD := callD_of fun pins s σ H xs us Q ω ds S I r st rr p => by
  unfold isiD at p
  split at p
  · split at p
    · rename_i t ht
      split at p
      · rename_i hn
        cases rr with
        | cons r1 r2 =>
        cases r2 with
        | cons r2 r3 =>
        cases r3; cases r2
        exact call_isi pins s σ H _ us Q I r ⟨_, _, _, _, _, rfl, .ty _, tyS_x st ht r1, kit_tab _ (tyS_in ht) _ (by simpa using hn), p.fin st (.bl _)⟩
      · exact p.elim
    · exact p.elim
  · exact p.elim
end

/-! ### sorted, of a list of alike data -/
def enc (S : Sto) (d : D) : PyData := (py S d).getD .none
def sortOk (ps : List PyData) : Bool := (ps.all fun p => ps.all fun q => PySem.W.alike p q) && ((ps.all fun p => match p with
  | .tuple (_ :: _) => true
  | _ => false) || (ps.all fun p => match p with
  | .none => false
  | .tuple _ => false
  | _ => true)) && decide (ps.length ≤ sizeLine)
def sortD (S : Sto) (xs : List D) : List D := xs.mergeSort (PySem.W.dataLe false (enc S))
/-- numbers in order -/
def insLe (x : Int) : List Int → List Int
  | [] => [x]
  | y :: r => if x ≤ y then x :: y :: r else y :: insLe x r
def srtL (l : List Int) : List Int := l.foldr insLe []
theorem insLe_perm {x : Int} : ∀ {l : List Int}, (insLe x l).Perm (x :: l)
  | [] => List.Perm.refl _
  | y :: r => by
    unfold insLe
    split
    · exact List.Perm.refl _
    · exact (List.Perm.cons y insLe_perm).trans (List.Perm.swap x y r)
theorem insLe_pw {x : Int} : ∀ {l : List Int}, l.Pairwise (· ≤ ·) → (insLe x l).Pairwise (· ≤ ·)
  | [], _ => by simp [insLe]
  | y :: r, h => by
    obtain ⟨h1, h2⟩ := List.pairwise_cons.mp h
    unfold insLe
    split
    · rename_i hx
      refine List.pairwise_cons.mpr ⟨fun z hz => ?_, h⟩
      rcases List.mem_cons.mp hz with e | e
      · rw [e]; exact hx
      · exact Int.le_trans hx (h1 z e)
    · refine List.pairwise_cons.mpr ⟨fun z hz => ?_, insLe_pw h2⟩
      rcases List.mem_cons.mp (insLe_perm.mem_iff.mp hz) with e | e
      · rw [e]; omega
      · exact h1 z e
theorem srtL_perm : ∀ l : List Int, (srtL l).Perm l
  | [] => List.Perm.refl _
  | x :: l => insLe_perm.trans (List.Perm.cons x (srtL_perm l))
theorem srtL_pw : ∀ l : List Int, (srtL l).Pairwise (· ≤ ·)
  | [] => List.Pairwise.nil
  | x :: l => insLe_pw (srtL_pw l)
theorem le_unique : ∀ {l m : List Int}, l.Perm m → l.Pairwise (· ≤ ·) → m.Pairwise (· ≤ ·) → l = m
  | [], m, h, _, _ => (List.nil_perm.mp h).symm
  | x :: l, [], h, _, _ => absurd h.length_eq (by simp)
  | x :: l, y :: m, h, hl, hm => by
    obtain ⟨l1, l2⟩ := List.pairwise_cons.mp hl
    obtain ⟨m1, m2⟩ := List.pairwise_cons.mp hm
    have e : x = y := by
      rcases List.mem_cons.mp (h.mem_iff.mp (show x ∈ x :: l by simp)) with a | a
      · exact a
      · rcases List.mem_cons.mp (h.mem_iff.mpr (show y ∈ y :: m by simp)) with b | b
        · exact b.symm
        · have := m1 x a; have := l1 y b; omega
    subst e
    rw [le_unique (List.Perm.cons_inv h) l2 m2]
def sortedN (ds : List D) (S : Sto) : Res Ob := match ds with
  | [d] => match seqOf S d, isL S d with
    | some xs, true => match optAll (py S) xs with
      | some ps => if sortOk ps = true then .ok (.lst (sortD S xs)) S else .bad
      | none => .bad
    | some _, false => .bad
    | none, _ => match dctOf S d with
      | some (false, kvs) => match intsOf (kvs.map (·.1)) with
        | some ks => if ks.length < 64 then .ok (.lst ((srtL ks).map D.int)) S else .bad
        | none => .bad
      | _ => .bad
  | _ => .bad
theorem encs {S : Sto} : ∀ {xs : List D} {ps : List PyData}, optAll (py S) xs = some ps → xs.map (enc S) = ps ∧ ∀ d ∈ xs, toPyN S 60 d = some (enc S d)
  | [], ps, h => by cases h; exact ⟨rfl, by simp⟩
  | x :: xs, ps, h => by
    unfold optAll at h
    split at h
    · rename_i a b h1 h2
      cases h
      obtain ⟨e1, e2⟩ := encs h2
      have z : toPyN S 60 x = some a := h1
      have e : enc S x = a := by unfold enc py; rw [z]; rfl
      refine ⟨by simp [e, e1], fun d hd => ?_⟩
      rcases List.mem_cons.mp hd with q | q
      · subst q; rw [e]; exact z
      · exact e2 d q
    · cases h
end PL
end
section
set_option Elab.async false
set_option linter.all false
set_option maxRecDepth 100000
set_option maxHeartbeats 4000000
set_option autoImplicit false
/-! Part m: sorted, dict(pairs), methods of built-in values. -/
namespace PL
open PySem L2

/-! ### sorted -/
section
variable {X : Cx} {ω : Om} {H : Hp} {S : Sto}
def Stands (X : Cx) (ω : Om) (H : Hp) (v : Value) (d : D) : Prop := ∃ x : V, RelV x v ∧ Rep X.K X.mg ω H d x
theorem stands_of : ∀ {ds : List D} {vs : List V} {us : List Value}, Reps X.K X.mg ω H ds vs → Vals vs us → PySem.W.EachIs (Stands X ω H) us ds
  | _, _, _, .nil, .nil => .nil
  | _, _, _, .cons r rs, .cons q qs => .cons ⟨_, q, r⟩ (stands_of rs qs)
theorem of_stands : ∀ {ds : List D} {us : List Value}, PySem.W.EachIs (Stands X ω H) us ds → ∃ vs, Vals vs us ∧ Reps X.K X.mg ω H ds vs
  | _, _, .nil => ⟨[], .nil, .nil⟩
  | _, _, .cons ⟨x, q, r⟩ t => by
    obtain ⟨vs, a, b⟩ := of_stands t
    exact ⟨x :: vs, .cons q a, .cons r b⟩
theorem stands_reads {pins : List (Addr × Obj)} {σ : St} {s : Shared} (I : L2.Inv X pins σ H s) (st : St0 X.K X.mg ω H S) : ∀ {ds : List D} {us : List Value}, (∀ d ∈ ds, toPyN S 60 d = some (enc S d)) → PySem.W.EachIs (Stands X ω H) us ds → PySem.W.EachIs (fun v d => ∃ as, Reads s.heap v (enc S d) as) us ds
  | _, _, _, .nil => .nil
  | d :: _, _, h, .cons ⟨x, q, r⟩ t => .cons (reads_of I st 60 d _ _ _ (toPyN_imp _ _ _ (h d (by simp))) r q) (stands_reads I st (fun e he => h e (by simp [he])) t)
theorem sortOk_ok {ps : List PyData} (h : sortOk ps = true) : PySem.W.AllAlike ps ∧ PySem.W.Sortable ps ∧ ps.length ≤ sizeLine := by
  simp only [sortOk, Bool.and_eq_true, decide_eq_true_eq] at h
  obtain ⟨⟨h1, h2⟩, h3⟩ := h
  refine ⟨fun d hd d' hd' => List.all_eq_true.mp (List.all_eq_true.mp h1 d hd) d' hd', ?_, h3⟩
  rcases Bool.or_eq_true_iff.mp h2 with h2 | h2
  · refine .inl fun d hd => ?_
    have := List.all_eq_true.mp h2 d hd
    split at this
    · exact ⟨_, _, rfl⟩
    · cases this
  · refine .inr fun d hd => ?_
    have := List.all_eq_true.mp h2 d hd
    split at this
    · cases this
    · cases this
    · rename_i k1 k2
      exact ⟨fun e => k1 e, fun xs e => k2 xs e⟩
theorem reps_ints' : ∀ l : List Int, Reps X.K X.mg ω H (l.map D.int) (l.map V.int)
  | [] => .nil
  | i :: l => .cons (.int _) (reps_ints' l)
theorem repK_ints : ∀ {kvs : List (D × D)} {ks : List Int} {ws : List (Key × V)}, intsOf (kvs.map (·.1)) = some ks → RepK X.K X.mg ω H kvs ws → ws.map (·.1) = ks.map Sum.inl
  | [], ks, _, h, .nil => by cases h; rfl
  | (d, e) :: kvs, ks, _, h, .cons hk r rs => by
    rw [List.map_cons] at h
    cases d <;> simp only [intsOf] at h <;> try cases h
    rename_i i
    obtain ⟨ks', h1, rfl⟩ := Option.map_eq_some_iff.mp h
    cases hk
    rw [List.map_cons, repK_ints h1 rs]; rfl
theorem cn_sorted (hc : X.calm = true) (hu : X.A.units + 130 < cLine) : CallN X (.builtin "sorted") sortedN := callN_of fun pins s σ H xs us Q ω ds S I r st rr p => by
  unfold sortedN at p
  split at p
  · split at p
    · rename_i zs hz hl
      split at p
      · rename_i ps hp
        split at p
        · rename_i hok
          obtain ⟨k1, k2, k3⟩ := sortOk_ok hok
          cases rr with
          | cons r1 r2 =>
          cases r2
          obtain ⟨a, vs, rfl, hv, r3⟩ := seqL_rep st hz hl r1
          obtain ⟨u, rfl, rx⟩ := vals1 r
          cases rx
          obtain ⟨its, rv, pl, hsz⟩ := I.list hv
          obtain ⟨e1, e2⟩ := encs hp
          have sts := stands_of r3 rv
          have hlen : zs.length = ps.length := by rw [← e1, List.length_map]
          refine PySem.W.sorted_data (bs := zs) (enc := enc S) (R := Stands X ω H) pl.isList sts (stands_reads I st e2 sts) (by rw [e1]; exact k1) (by rw [e1]; exact k2) (by rw [hlen]; exact k3) (fun b hb => ?_) fun out ho eo => ?_
          · have := depth_of 60 b _ (toPyN_imp _ _ _ (e2 b hb))
            omega
          · obtain ⟨ws, q1, q2⟩ := of_stands eo
            obtain ⟨c, hc⟩ := PyProof.Rows.sortedAll_at s.heap its out.toArray
            have n : H (s.heap.objs.size + 1) = none := I.hok.fresh (Nat.le_succ _)
            refine ⟨.ref (s.heap.objs.size + 1), upd H (s.heap.objs.size + 1) (.lst ws), I.laid (t' := s.toks) (o := .lst ws) (fun _ _ e => PyProof.Rows.sortedAll_old e) (Nat.le_succ _) ⟨?_, out, c, q1, hc⟩, rfl, p.fin st n (.lst q2)⟩
            rw [q1.length, ho, hlen]; exact k3
        · exact p.elim
      · exact p.elim
    · exact p.elim
    · split at p
      · rename_i kvs hd
        split at p
        · rename_i ks hks
          split at p
          · rename_i h64
            cases rr with
            | cons r1 r2 =>
            cases r2
            obtain ⟨a, rfl, ⟨_, ws, ha, rw'⟩ | ⟨z, _⟩⟩ := dctOf_rep st hd r1
            · refine call_sortedDI hc pins s σ H _ us Q I r ⟨a, ws, ks, rfl, ha, repK_ints hks rw', h64, fun ys q hp hs hn => ?_⟩
              have e : ys = srtL ks := le_unique (hp.trans (srtL_perm ks).symm) hs (srtL_pw ks)
              rw [e]
              exact p.fin st hn (.lst (reps_ints' _))
            · cases z
          · exact p.elim
        · exact p.elim
      · exact p.elim
  · exact p.elim

/-! ### dict(a list of pairs) -/
def pairsOf : List D → Option (List (D × D × Key))
  | [] => some []
  | .tup [k, v] :: r => match keyOf k, pairsOf r with
    | some κ, some ps => some ((k, v, κ) :: ps)
    | _, _ => none
  | _ :: _ => none
def mergeL (kvs : List (D × D)) : List (D × D × Key) → List (D × D)
  | [] => kvs
  | (k, v, κ) :: r => mergeL (putL kvs κ k v) r
def dictN (ds : List D) (S : Sto) : Res Ob := match ds with
  | [d] => match (seqOf S d).bind pairsOf, isL S d with
    | some ps, true => .ok (.dct false (mergeL [] ps)) S
    | _, _ => (match dctOf S d with
      | some (false, kvs) => .ok (.dct false kvs) S
      | _ => .bad)
  | _ => .bad
theorem pairs_rep : ∀ {ds : List D} {ps : List (D × D × Key)} {vs : List V}, pairsOf ds = some ps → Reps X.K X.mg ω H ds vs → ∃ (as : List Addr) (kvs : List (Key × V)), vs = as.map V.ref ∧ Paired (fun p kv => SqT X.K H p [kV kv.1, kv.2]) as kvs ∧
    ∀ (ls : List (D × D)) (ws : List (Key × V)), RepK X.K X.mg ω H ls ws → RepK X.K X.mg ω H (mergeL ls ps) (mergeK ws kvs)
  | [], ps, _, h, r => by cases h; cases r; exact ⟨[], [], rfl, .nil, fun _ _ r => r⟩
  | d :: ds, ps, _, h, .cons r rs => by
    unfold pairsOf at h
    split at h
    · rename_i e; cases e
    · rename_i k v r' e
      cases e
      split at h
      · rename_i κ qs h1 h2
        cases h
        obtain ⟨as, kvs, rfl, pr, go⟩ := pairs_rep h2 rs
        cases r with
        | tup hq rr =>
          cases rr with
          | cons ra rb => cases rb with
            | cons rb rc =>
              cases rc
              rename_i a vk vv
              have ek := keyOf_is h1 ra
              subst ek
              refine ⟨a :: as, (κ, vv) :: kvs, rfl, .cons (SqT.of hq) pr, fun ls ws r => ?_⟩
              exact go _ _ (putL_rep h1 rb r)
      · cases h
    · cases h
theorem cn_dict (hc : X.calm = true) : CallN X (.type "dict") dictN := callN_of fun pins s σ H xs us Q ω ds S I r st rr p => by
  unfold dictN at p
  split at p
  · cases rr with
    | cons r1 r2 =>
    cases r2
    split at p
    · rename_i ps h1 h2
      obtain ⟨zs, h1, h3⟩ := Option.bind_eq_some_iff.mp h1
      obtain ⟨a, vs, rfl, hv, r3⟩ := seqL_rep st h1 h2 r1
      obtain ⟨as, kvs, rfl, pr, go⟩ := pairs_rep h3 r3
      exact call_dictP hc pins s σ H _ us Q I r ⟨a, as, kvs, rfl, hv, pr, fun q n => p.fin st n (.dct (go _ _ .nil))⟩
    · split at p
      · rename_i kvs hd
        obtain ⟨a, rfl, ⟨_, ws, ha, rw'⟩ | ⟨z, _⟩⟩ := dctOf_rep st hd r1
        · exact call_dictD pins s σ H _ us Q I r ⟨a, ws, rfl, ha, fun q n => p.fin st n (.dct rw')⟩
        · cases z
      · exact p.elim
  · exact p.elim
end

/-! ### methods -/
abbrev Mfn := D → List D → Sto → Res D
section
variable (K : PySem.W.Frag) (mg : Str → Option Value)
def rMd (fn : Mfn) : V → List V → Hp → VK → Prop := fun x xs H Q => ∃ ω d ds S, St0 K mg ω H S ∧ Rep K mg ω H d x ∧ Reps K mg ω H ds xs ∧ PostB K mg ω H (fn d ds S) Q
end
def MtD (X : Cx) (id : String) (fn : Mfn) : Prop := MtR X id (rMd X.K X.mg fn)
structure MRow (X : Cx) (T : String) (name : Str) (fn : Mfn) (id : String) : Prop where
  pa : PlainAttrs T
  slot : Slot T name id
  ty : typeOf (.builtin id) = pure (.type "method_descriptor")
  mt : MtD X id fn
abbrev MTab := List (String × Mfn)
def MTabOk (X : Cx) (name : Str) (tab : MTab) : Prop := ∀ T fn, tab.lookup T = some fn → (T = "list" ∨ T = "str" ∨ T = "dict") ∧ ∃ id, MRow X T name fn id
def eMeth (tab : MTab) (f : Ev) (F : EvL) : Ev := fun ρ S => (f ρ S).bind fun o S1 => match (tyS S1 o).bind fun T => tab.lookup T with
  | none => .bad
  | some fn => (F ρ S1).bind fun ds S2 => match fn o ds S2 with
    | .ok d S3 => .ok d S3
    | _ => .bad
theorem tyS_on {X : Cx} {pins : List (Addr × Obj)} {σ : St} {H : Hp} {s : Shared} {ω : Om} {S : Sto} {d : D} {v : V} {u : Value} {T : String} (I : L2.Inv X pins σ H s) (st : St0 X.K X.mg ω H S) (h : tyS S d = some T) (hT : T = "list" ∨ T = "str" ∨ T = "dict") (r : Rep X.K X.mg ω H d v) (ru : RelV v u) :
    s.TypeIs u T ∧ ∀ a, u = .ref a → ∃ ob, s.heap.get? a = some ob ∧ ob.dict = none := by
  have lst : ∀ {a : Addr} {vs : List V}, SqL X.K H a vs → s.TypeIs (.ref a) "list" ∧ ∀ b, Value.ref a = .ref b → ∃ ob, s.heap.get? b = some ob ∧ ob.dict = none := fun {a vs} hq =>
    tyV_is (x := .ref a) I rfl (.inl ⟨rfl, vs, hq⟩)
  have dct : ∀ {a : Addr}, IsD H a → s.TypeIs (.ref a) "dict" ∧ ∀ b, Value.ref a = .ref b → ∃ ob, s.heap.get? b = some ob ∧ ob.dict = none := fun {a} hq =>
    let z := isD_at I hq; ⟨z.1, z.2.1⟩
  cases d <;> simp only [tyS] at h
  · cases h; exact absurd hT (by decide)
  · cases h; exact absurd hT (by decide)
  · cases h; exact absurd hT (by decide)
  · cases h; cases r; obtain ⟨t, rfl⟩ := ru; exact ⟨typeIs_str _ _ _, fun _ e => nomatch e⟩
  · cases h; exact absurd hT (by decide)
  · cases h; cases r with
    | lst hq _ => cases ru; exact lst (SqL.of hq.lst)
  · cases h; cases r with
    | scr hq _ => cases ru; exact lst hq.sq
  · cases h; cases r with
    | dct hq _ => cases ru; exact dct (.inl ⟨_, hq.rd⟩)
    | dctT hq _ => cases ru; exact dct (.inr ⟨_, .inl hq.dT⟩)
  · cases h
  · split at h
    · rename_i l xs hl
      cases h; cases r with
      | ref hr =>
        obtain ⟨o, ho, r⟩ := st.obs _ _ _ hl hr
        cases ru
        cases r with
        | lst r => exact lst (SqL.of ho)
    · rename_i l t kvs hl
      cases h; cases r with
      | ref hr =>
        obtain ⟨o, ho, r⟩ := st.obs _ _ _ hl hr
        cases ru
        cases r with
        | dct r => exact dct (.inl ⟨_, .inl ho⟩)
        | dctT r => exact dct (.inr ⟨_, .inl ho⟩)
    · cases h
  · cases h
  · cases h
section
variable {X : Cx} {W : WX} {o e : Expr} {es : List Expr} {f : Ev} {F : EvL} {name : Str} {apos cpos : Pos} {tab : MTab}
theorem de_meth (ht : MTabOk X name tab) (ho : DE X W o f) (ha : DA X W (e :: es) F) (hbase : attributeBase o name X.env (eval o X.env) = eval o X.env)
    (hfew : ((backTo cpos (starEach (e :: es) X.env)).all (fun x => !x.1) && (backToKw cpos (keywordEach [] X.env)).all (fun x => x.1.isSome)
      && decide ((e :: es).length + ([] : List Keyword).length + (if ([] : List Keyword).isEmpty then 0 else 1) < 30)) = true)
    (hline : (apos.endLine == cpos.line) = true) (hs : starEach (e :: es) X.env = (false, eval e X.env) :: starEach es X.env) (hplain : (backTo cpos (starEach es X.env)).any (·.1) = false) :
    DE X W (.Call (.Attribute o name apos) (e :: es) [] cpos) (eMeth tab f F) := by
  refine ⟨fun pins s σ H Q I ⟨ω, ρ, S, at_, p⟩ => ?_⟩
  have h : tD X.K X.mg W f σ H fun x H1 => ∃ ω1 S1 d T fn, At X.K X.mg ω1 H1 σ ρ S1 ∧ Rep X.K X.mg ω1 H1 d x ∧ tyS S1 d = some T ∧ tab.lookup T = some fn ∧ tDA X.K X.mg W F σ H1 fun xs H2 => rMd X.K X.mg fn x xs H2 Q := by
    refine tD_bind at_ p fun d S1 v ω1 H1 e1 a1 r1 p1 => ?_
    cases hT : (tyS S1 d).bind fun T => tab.lookup T with
    | none => rw [hT] at p1; exact p1.elim
    | some fn =>
      rw [hT] at p1
      obtain ⟨T, h1, h2⟩ := Option.bind_eq_some_iff.mp hT
      refine ⟨ω1, S1, d, T, fn, a1, r1, h1, h2, ?_⟩
      refine tDA_bind a1 p1 fun ds S2 vs ω2 H2 e2 a2 r2 p2 => ⟨ω2, d, ds, S2, a2.st, r1.keep a1.st.ok e2, r2, ?_⟩
      cases hf : fn d ds S2 with
      | ok d S2 => rw [hf] at p2; exact p2
      | ex z S2 => rw [hf] at p2; exact p2
      | bad => rw [hf] at p2; exact p2
  refine wpAny_Call_method_late hbase hfew hline rfl (thn (ho.run pins s σ H _ I h) fun v s1 ⟨x, H1, I1, r1, ω1, S1, d, T, fn, a1, rd, hty, hlk, q1⟩ => ?_)
  obtain ⟨hT, id, m⟩ := ht T fn hlk
  obtain ⟨h1, h2⟩ := tyS_on I1 a1.st hty hT rd r1
  refine ⟨T, id, m.pa, m.slot, m.ty, h1, h2, ?_⟩
  have hA := ha.run cpos pins s1 σ H1 _ I1 q1
  rw [hs] at hA ⊢
  refine Calls.callWith_builtin (by show (false || (backTo cpos (starEach es X.env)).any (·.1)) = false; rw [hplain] <;> rfl) (Calls.evalArgs_plain ?_)
  exact thn hA fun us s2 ⟨vs, H2, I2, r2, q2⟩ => m.mt pins s2 σ H2 x vs v us Q I2 r1 r2 q2
theorem de_meth0 (ht : MTabOk X name tab) (ho : DE X W o f) (hbase : attributeBase o name X.env (eval o X.env) = eval o X.env) (hline : (apos.endLine == cpos.line) = true) :
    DE X W (.Call (.Attribute o name apos) [] [] cpos) (eMeth tab f aNil) := by
  refine ⟨fun pins s σ H Q I ⟨ω, ρ, S, at_, p⟩ => ?_⟩
  have h : tD X.K X.mg W f σ H fun x H1 => ∃ ω1 S1 d T fn, At X.K X.mg ω1 H1 σ ρ S1 ∧ Rep X.K X.mg ω1 H1 d x ∧ tyS S1 d = some T ∧ tab.lookup T = some fn ∧ rMd X.K X.mg fn x [] H1 Q := by
    refine tD_bind at_ p fun d S1 v ω1 H1 e1 a1 r1 p1 => ?_
    cases hT : (tyS S1 d).bind fun T => tab.lookup T with
    | none => rw [hT] at p1; exact p1.elim
    | some fn =>
      rw [hT] at p1
      obtain ⟨T, h1, h2⟩ := Option.bind_eq_some_iff.mp hT
      refine ⟨ω1, S1, d, T, fn, a1, r1, h1, h2, ω1, d, [], S1, a1.st, r1, .nil, ?_⟩
      change PostE X.K X.mg W ω1 H1 σ (match fn d [] S1 with
        | .ok d S3 => .ok d S3
        | _ => .bad) Q at p1
      cases hf : fn d [] S1 with
      | ok d S2 => rw [hf] at p1; exact p1
      | ex z S2 => rw [hf] at p1; exact p1
      | bad => rw [hf] at p1; exact p1
  refine wpAny_Call_method0_late hbase hline (thn (ho.run pins s σ H _ I h) fun v s1 ⟨x, H1, I1, r1, ω1, S1, d, T, fn, a1, rd, hty, hlk, q1⟩ => ?_)
  obtain ⟨hT, id, m⟩ := ht T fn hlk
  obtain ⟨h1, h2⟩ := tyS_on I1 a1.st hty hT rd r1
  exact ⟨T, id, m.pa, m.slot, m.ty, h1, h2, Calls.callWith_builtin rfl (PySem.evalArgs_none (m.mt pins s1 σ H1 x [] v [] Q I1 r1 .nil q1))⟩
end

/-! ### the methods -/
def appendD : Mfn := fun o ds S => match o, ds with
  | .ref l, [d] => match S[l]? with
    | some (.lst xs) => if lenFits (xs.length + 1) = true then .ok .non (S.set l (.lst (xs ++ [d]))) else .bad
    | _ => .bad
  | _, _ => .bad
/-- what a list may be extended by -/
def extOf (S : Sto) : D → Option (List D)
  | .tup ys => some ys
  | d => listOf S d
def extendD : Mfn := fun o ds S => match o, ds with
  | .ref l, [d] => match S[l]?, extOf S d with
    | some (.lst xs), some ys => if lenFits (xs.length + ys.length) = true then .ok .non (S.set l (.lst (xs ++ ys))) else .bad
    | _, _ => .bad
  | _, _ => .bad
def lpopD : Mfn := fun o ds S => match o, ds with
  | .ref l, [] => match S[l]? with
    | some (.lst xs) => match xs[xs.length - 1]? with
      | some d => .ok d (S.set l (.lst xs.dropLast))
      | none => .bad
    | _ => .bad
  | .ref l, [.int i] => match S[l]? with
    | some (.lst xs) => match (if -(2 ^ 63) ≤ i ∧ i < 2 ^ 63 then seqIndex? i xs.length else none) with
      | some k => match xs[k]? with
        | some d => .ok d (S.set l (.lst (xs.eraseIdx k)))
        | none => .bad
      | none => .bad
    | _ => .bad
  | _, _ => .bad
def insertD : Mfn := fun o ds S => match o, ds with
  | .ref l, [.int i, d] => match S[l]? with
    | some (.lst xs) => if lenFits (xs.length + 1) = true ∧ 0 ≤ i ∧ i < 2 ^ 63 then .ok .non (S.set l (.lst (xs.take i.toNat ++ [d] ++ xs.drop i.toNat))) else .bad
    | _ => .bad
  | _, _ => .bad
def reverseD : Mfn := fun o ds S => match o, ds with
  | .ref l, [] => match S[l]? with
    | some (.lst xs) => .ok .non (S.set l (.lst xs.reverse))
    | _ => .bad
  | _, _ => .bad
def joinD : Mfn := fun o ds S => match o, ds with
  | .str a, [d] => match (seqOf S d).bind strsOf with
    | some ys => if (ys.map (·.length)).sum + ys.length * a.length ≤ 16777216 then .ok (.str (Txt.join a ys)) S else .bad
    | none => .bad
  | _, _ => .bad
def upperD : Mfn := fun o ds S => match o, ds with
  | .str a, [] => if a.length ≤ 5592405 then .ok (.str (Txt.upper a)) S else .bad
  | _, _ => .bad
def getD' : Mfn := fun o ds S => match ds with
  | [k] => match dgetS S o k with
    | some r => .ok (r.getD .non) S
    | none => .bad
  | [k, d] => match dgetS S o k with
    | some r => .ok (r.getD d) S
    | none => .bad
  | _ => .bad
section
variable {X : Cx}
theorem Reps.dropLast {K : PySem.W.Frag} {mg : Str → Option Value} {ω : Om} {H : Hp} : ∀ {ds : List D} {vs : List V}, Reps K mg ω H ds vs → Reps K mg ω H ds.dropLast vs.dropLast
  | _, _, .nil => .nil
  | _, _, .cons r .nil => .nil
  | _, _, .cons r (.cons q t) => .cons r (Reps.dropLast (.cons q t))
theorem Reps.eraseIdx {K : PySem.W.Frag} {mg : Str → Option Value} {ω : Om} {H : Hp} : ∀ {ds : List D} {vs : List V} (i : Nat), Reps K mg ω H ds vs → Reps K mg ω H (ds.eraseIdx i) (vs.eraseIdx i)
  | _, _, _, .nil => .nil
  | _, _, 0, .cons _ t => t
  | _, _, i + 1, .cons r t => .cons r (Reps.eraseIdx i t)
theorem md_append : MtD X "list.append" appendD := by
  intro pins s σ H x xs v us Q I rx rxs ⟨ω, d, ds, S, st, r, rr, p⟩
  unfold appendD at p
  split at p
  · split at p
    · rename_i l d _ zs hl
      split at p
      · rename_i hz
        cases r with
        | ref hr =>
        obtain ⟨o, ho, r0⟩ := st.obs _ _ _ hl hr
        cases r0 with
        | lst r0 =>
        cases rr with
        | cons r1 r2 =>
        cases r2
        obtain ⟨e, s'⟩ := st.put hr hl (.lst (r0.append (.cons r1 .nil)))
        have hz := lenFits_le hz
        exact mt_append pins s σ H _ _ v us Q I rx rxs ⟨_, _, _, rfl, rfl, ho, by rw [← r0.length]; omega, p _ ω _ e s' .non⟩
      · exact p.elim
    · exact p.elim
  · exact p.elim
theorem meets_extT (l b : Addr) (xs ys : Array Value) (n m : Nat) (dd : Option Addr) (sl : Array (Option Value)) (h0 : ¬(!xs.isEmpty && Builtin.List.listTooLong (xs.size + ys.size)) = true) (h1 : xs.size ≤ sizeLine) (h2 : xs.size + ys.size ≤ sizeLine + 1) :
    Meets (Builtin.«list.extend» ⟨[.ref l, .ref b], []⟩) (fun _ R s => s.heap.get? l = some { cls := .type "list", data := .seq xs n } ∧ s.heap.get? b = some { cls := .type "tuple", dict := dd, data := .seq ys m, slots := sl } ∧ R (.ok (.ret Value.none)) { s with heap := s.heap.update l (Obj.mapSeq fun x => x ++ ys), toks := s.toks }) := .of_wp fun prog w A R ⟨hp, g, d, tk, os⟩ ⟨hl, hb, h⟩ => by
  have f1 := AutoSeq1.idx_int; have f2 := AutoSeq1.sub_tuple_tuple; have f3 := AutoSeq1.sub_list_list; have f4 := AutoSeq1.sub_tuple_list; have f5 := AutoSeq1.sub_list_tuple
  have z : (xs ++ ys).size ≤ sizeLine + 1 := by rw [Array.size_append]; exact h2
  wp_walk using (wpAny_updateSeq hl rfl (hz := h1) (_hz' := z)), AutoSeq1.wpAny_loadPart' hl, AutoSeq1.wpAny_loadPart' hb
  exact ⟨_, rfl, h⟩
theorem mt_extendT {X : Cx} : MtR X "list.extend" (fun x vs H Q => ∃ l b xs zs, x = .ref l ∧ vs = [.ref b] ∧ H l = some (.lst xs) ∧ SqT X.K H b zs ∧ xs.length + zs.length ≤ sizeLine ∧ Q .non (upd H l (.lst (xs ++ zs)))) := by
  intro pins s σ H x vs v us Q I rx rv ⟨l, b, xs, zs, e1, e2, hH, hB, hz, q⟩
  subst e1 e2
  cases rx
  obtain ⟨u, rfl, ru⟩ := rv.one
  cases ru
  obtain ⟨z, its, n, r, hl, e⟩ := I.lstM hH
  obtain ⟨jts, r2, ⟨⟨cls, dd, data, sl⟩, f1, f2, n2, f3⟩, z2⟩ := I.tuple hB
  simp only at f2 f3
  subst f2 f3
  have l2 := r2.length
  have big : its.toArray.size + jts.toArray.size ≤ sizeLine := by rw [List.size_toArray, List.size_toArray]; omega
  have low : ¬ (!its.toArray.isEmpty && Builtin.List.listTooLong (its.toArray.size + jts.toArray.size)) = true := by rw [notLongL big, Bool.and_false]; exact Bool.false_ne_true
  refine call_meets F.slot_list_extend ⟨_, e, rfl⟩ F.entry_list_extend (F.args_list_extend_2 _ _) (meets_extT l b its.toArray jts.toArray n n2 dd sl low (by rw [List.size_toArray]; omega) (by omega)) ⟨e, ?_, .non, _, I.lset (its' := its ++ jts) hH e (by simp) (r.append r2) (by rw [List.length_append]; omega), rfl, q⟩
  exact f1
theorem md_extend : MtD X "list.extend" extendD := by
  intro pins s σ H x xs v us Q I rx rxs ⟨ω, d, ds, S, st, r, rr, p⟩
  unfold extendD at p
  split at p
  · split at p
    · rename_i l d _ _ zs ys hl hd
      split at p
      · rename_i hz
        cases r with
        | ref hr =>
        obtain ⟨o, ho, r0⟩ := st.obs _ _ _ hl hr
        cases r0 with
        | lst r0 =>
        cases rr with
        | cons r1 r2 =>
        cases r2
        have hz := lenFits_le hz
        unfold extOf at hd
        split at hd
        · cases hd
          cases r1 with
          | tup hb r3 =>
          obtain ⟨e, s'⟩ := st.put hr hl (.lst (r0.append r3))
          exact mt_extendT pins s σ H _ _ v us Q I rx rxs ⟨_, _, _, _, rfl, rfl, ho, SqT.of hb, by rw [← r0.length, ← r3.length]; exact hz, p _ ω _ e s' .non⟩
        · obtain ⟨b, ws, rfl, hb, r3⟩ := listOf_rep st hd r1
          obtain ⟨e, s'⟩ := st.put hr hl (.lst (r0.append r3))
          exact mt_extend pins s σ H _ _ v us Q I rx rxs ⟨_, _, _, _, rfl, rfl, ho, hb, by rw [← r0.length, ← r3.length]; exact hz, p _ ω _ e s' .non⟩
      · exact p.elim
    · exact p.elim
  · exact p.elim
theorem md_lpop : MtD X "list.pop" lpopD := by
  intro pins s σ H x xs v us Q I rx rxs ⟨ω, d, ds, S, st, r, rr, p⟩
  unfold lpopD at p
  split at p
  · split at p
    · rename_i l _ zs hl
      split at p
      · rename_i dd hd
        cases r with
        | ref hr =>
        obtain ⟨o, ho, r0⟩ := st.obs _ _ _ hl hr
        cases r0 with
        | lst r0 =>
        cases rr
        obtain ⟨w, hw, rw'⟩ := r0.get hd
        obtain ⟨e, s'⟩ := st.put hr hl (.lst r0.dropLast)
        exact mt_pop pins s σ H _ _ v us Q I rx rxs ⟨_, _, w, rfl, rfl, ho, by rw [← r0.length]; exact hw, p _ ω _ e s' (rw'.keep st.ok e)⟩
      · exact p.elim
    · exact p.elim
  · split at p
    · rename_i l i _ zs hl
      split at p
      · rename_i k hk
        split at hk
        · rename_i hb
          split at p
          · rename_i dd hd
            cases r with
            | ref hr =>
            obtain ⟨o, ho, r0⟩ := st.obs _ _ _ hl hr
            cases r0 with
            | lst r0 =>
            cases rr with
            | cons r1 r2 =>
            cases r2; cases r1
            obtain ⟨w, hw, rw'⟩ := r0.get hd
            obtain ⟨e, s'⟩ := st.put hr hl (.lst (r0.eraseIdx k))
            exact mt_popAt pins s σ H _ _ v us Q I rx rxs ⟨_, _, _, k, w, rfl, rfl, ho, hb.1, hb.2, by rw [← r0.length]; exact hk, hw, p _ ω _ e s' (rw'.keep st.ok e)⟩
          · exact p.elim
        · cases hk
      · exact p.elim
    · exact p.elim
  · exact p.elim
theorem md_insert : MtD X "list.insert" insertD := by
  intro pins s σ H x xs v us Q I rx rxs ⟨ω, d, ds, S, st, r, rr, p⟩
  unfold insertD at p
  split at p
  · split at p
    · rename_i l i d _ zs hl
      split at p
      · rename_i hz
        cases r with
        | ref hr =>
        obtain ⟨o, ho, r0⟩ := st.obs _ _ _ hl hr
        cases r0 with
        | lst r0 =>
        cases rr with
        | cons r1 r2 =>
        cases r2 with
        | cons r2 r3 =>
        cases r3; cases r1
        obtain ⟨e, s'⟩ := st.put hr hl (.lst (((r0.take i.toNat).append (.cons r2 .nil)).append (r0.drop i.toNat)))
        have hz1 := lenFits_le hz.1
        exact mt_insert pins s σ H _ _ v us Q I rx rxs ⟨_, _, _, _, rfl, rfl, ho, by rw [← r0.length]; omega, hz.2.1, hz.2.2, p _ ω _ e s' .non⟩
      · exact p.elim
    · exact p.elim
  · exact p.elim
theorem md_reverse : MtD X "list.reverse" reverseD := by
  intro pins s σ H x xs v us Q I rx rxs ⟨ω, d, ds, S, st, r, rr, p⟩
  unfold reverseD at p
  split at p
  · split at p
    · rename_i l _ zs hl
      cases r with
      | ref hr =>
      obtain ⟨o, ho, r0⟩ := st.obs _ _ _ hl hr
      cases r0 with
      | lst r0 =>
      cases rr
      obtain ⟨e, s'⟩ := st.put hr hl (.lst r0.reverse)
      exact mt_reverse pins s σ H _ _ v us Q I rx rxs ⟨_, _, rfl, rfl, ho, p _ ω _ e s' .non⟩
    · exact p.elim
  · exact p.elim
theorem md_join : MtD X "str.join" joinD := by
  intro pins s σ H x xs v us Q I rx rxs ⟨ω, d, ds, S, st, r, rr, p⟩
  unfold joinD at p
  split at p
  · split at p
    · rename_i ys hy
      split at p
      · rename_i hz
        obtain ⟨zs, h1, h2⟩ := Option.bind_eq_some_iff.mp hy
        cases r
        cases rr with
        | cons r1 r2 =>
        cases r2
        obtain ⟨a, vs, rfl, hv, r3⟩ := seqOf_rep st h1 r1
        have e := strsOf_rep h2 r3
        subst e
        exact mt_join pins s σ H _ _ v us Q I rx rxs ⟨_, a, ys, rfl, rfl, hv, hz, p.fin st (.str _)⟩
      · exact p.elim
    · exact p.elim
  · exact p.elim
theorem md_upper : MtD X "str.upper" upperD := by
  intro pins s σ H x xs v us Q I rx rxs ⟨ω, d, ds, S, st, r, rr, p⟩
  unfold upperD at p
  split at p
  · split at p
    · rename_i hz
      cases r
      cases rr
      exact mt_upper pins s σ H _ _ v us Q I rx rxs ⟨_, rfl, rfl, hz, p.fin st (.str _)⟩
    · exact p.elim
  · exact p.elim
theorem md_get (hu : X.A.units + 1 < cLine) : MtD X "dict.get" getD' := by
  intro pins s σ H x xs v us Q I rx rxs ⟨ω, d, ds, S, st, r, rr, p⟩
  unfold getD' at p
  split at p
  · split at p
    · rename_i k o ho
      cases rr with
      | cons r1 r2 =>
      cases r2
      obtain ⟨a, o', rfl, g, h1, h2⟩ := dget_rep st ho r r1
      cases rx
      obtain ⟨u, rfl, ru⟩ := vals1 rxs
      refine d_get1 hu I g ru fun w' s' I' rw' => ⟨_, H, I', rw', ?_⟩
      cases o with
      | none =>
        cases o' with
        | none => exact p.fin st .non
        | some _ => cases h1
      | some e =>
        obtain ⟨w, rfl, rw2⟩ := h2 e rfl
        exact p.fin st rw2
    · exact p.elim
  · split at p
    · rename_i k dd o ho
      cases rr with
      | cons r1 r2 =>
      cases r2 with
      | cons r2 r3 =>
      cases r3
      obtain ⟨a, o', rfl, g, h1, h2⟩ := dget_rep st ho r r1
      cases rx
      obtain ⟨u, u2, rfl, ru, ru2⟩ := vals2 rxs
      refine d_get2 hu I g ru ru2 fun w' s' I' rw' => ⟨_, H, I', rw', ?_⟩
      cases o with
      | none =>
        cases o' with
        | none => exact p.fin st r2
        | some _ => cases h1
      | some e =>
        obtain ⟨w, rfl, rw2⟩ := h2 e rfl
        exact p.fin st rw2
    · exact p.elim
  · exact p.elim
end
end PL
end
section
set_option Elab.async false
set_option linter.all false
set_option maxRecDepth 100000
set_option maxHeartbeats 4000000
set_option autoImplicit false
/-! Part n: a def's end: what it made is laid as values; a def by its body. -/
namespace PL
open PySem L2 PySem.Spec PyProof.Rows

/-! ### references below n only -/
mutual
def low (n : Nat) : D → Bool
  | .ref l => decide (l < n)
  | .tup xs => lowL n xs
  | .lst xs => lowL n xs
  | .scr xs => lowL n xs
  | .dct _ kvs => lowK n kvs
  | .ins _ fs => lowF n fs
  | _ => true
def lowL (n : Nat) : List D → Bool
  | [] => true
  | d :: ds => low n d && lowL n ds
def lowK (n : Nat) : List (D × D) → Bool
  | [] => true
  | (_, d) :: ds => low n d && lowK n ds
def lowF (n : Nat) : List (Str × D) → Bool
  | [] => true
  | (_, d) :: ds => low n d && lowF n ds
end
def optK (f : D → Option D) : List (D × D) → Option (List (D × D))
  | [] => some []
  | (k, d) :: r => match f d, optK f r with
    | some e, some s => some ((k, e) :: s)
    | _, _ => none
def optF (f : D → Option D) : List (Str × D) → Option (List (Str × D))
  | [] => some []
  | (k, d) :: r => match f d, optF f r with
    | some e, some s => some ((k, e) :: s)
    | _, _ => none
/-- the store's objects from n on written out -/
def frz (S : Sto) (n : Nat) : Nat → D → Option D
  | 0, d => if low n d = true then some d else none
  | k + 1, d => if low n d = true then some d else match d with
    | .tup xs => (optAll (frz S n k) xs).map .tup
    | .lst xs => (optAll (frz S n k) xs).map .lst
    | .scr xs => (optAll (frz S n k) xs).map .scr
    | .dct t kvs => (optK (frz S n k) kvs).map (.dct t)
    | .ins c fs => (optF (frz S n k) fs).map (.ins c)
    | .ref l => match S[l]? with
      | some (.lst xs) => (optAll (frz S n k) xs).map .lst
      | some (.dct t kvs) => (optK (frz S n k) kvs).map (.dct t)
      | some (.ins c fs) => (optF (frz S n k) fs).map (.ins c)
      | none => none
    | d => some d
def frzOb (S : Sto) (n : Nat) : Ob → Option Ob
  | .lst xs => (optAll (frz S n 40) xs).map .lst
  | .dct t kvs => (optK (frz S n 40) kvs).map (.dct t)
  | .ins c fs => (optF (frz S n 40) fs).map (.ins c)
def lowOb (n : Nat) : Ob → Bool
  | .lst xs => lowL n xs
  | .dct _ kvs => lowK n kvs
  | .ins _ fs => lowF n fs
def lowS (n : Nat) : Sto → Bool
  | [] => true
  | ob :: r => lowOb n ob && lowS n r
/-- the first n objects -/
def settle (S : Sto) (n : Nat) : Option Sto := if lowS n (S.take n) = true then some (S.take n) else optAll (frzOb S n) (S.take n)
def endD (keep : Bool) (S : Sto) (d : D) (S1 : Sto) : Res D := if keep = true then .ok d S1 else match frz S1 S.length 40 d, settle S1 S.length with
  | some d', some S' => .ok d' S'
  | _, _ => .bad
def endX (keep : Bool) (S : Sto) (x : Exc) (S1 : Sto) : Res D := if keep = true then .ex x S1 else match optF (frz S1 S.length 40) x.fs, settle S1 S.length with
  | some fs, some S' => .ex ⟨x.c, fs⟩ S'
  | _, _ => .bad
def endFn (keep : Bool) (S : Sto) (r : Fl) : Res D := match r with
  | .rt d S1 => endD keep S d S1
  | .nx _ S1 => endD keep S .non S1
  | .ex x _ S1 => endX keep S x S1
  | _ => .bad
def startR (n : Nat) (ds : List D) : Fr := ds.map some ++ List.replicate (n - ds.length) none
/-- a def's mirror by its body's: n names, m parameters -/
def mkFn (n m : Nat) (keep : Bool) (t : St') : Fn := fun ds S => if ds.length = m then endFn keep S (t (startR n ds) S) else .bad

def Om.cut (ω : Om) (n : Nat) : Om := ⟨fun a => ω.M a ∨ a ∈ ω.at_.drop n, ω.at_.take n⟩
section
variable {K : PySem.W.Frag} {mg : Str → Option Value} {ω ω1 : Om} {H H1 : Hp} {S S1 : Sto} {n : Nat}
theorem cut_get {l : Nat} {a : Addr} (hl : l < n) (h : ω.at_[l]? = some a) : (ω.cut n).at_[l]? = some a := by
  show (ω.at_.take n)[l]? = _
  rw [List.getElem?_take_of_lt hl]; exact h
theorem Fzn.cut {a : Addr} {o : HO} (h : Fzn ω H a o) : Fzn (ω.cut n) H a o := ⟨.inl h.1, h.2⟩
mutual
theorem Rep.cut : ∀ {d : D} {v : V}, low n d = true → Rep K mg ω H d v → Rep K mg (ω.cut n) H d v
  | _, _, _, .non => .non
  | _, _, _, .bl b => .bl b
  | _, _, _, .int i => .int i
  | _, _, _, .str x => .str x
  | _, _, _, .ty m => .ty m
  | _, _, _, .glo h => .glo h
  | _, _, h, .ref r => .ref (cut_get (by simpa [low] using h) r)
  | _, _, h, .tup q r => .tup q (Reps.cut (by simpa [low] using h) r)
  | _, _, h, .lst q r => .lst q.cut (Reps.cut (by simpa [low] using h) r)
  | _, _, h, .scr q r => .scr q (Reps.cut (by simpa [low] using h) r)
  | _, _, h, .dct q r => .dct q.cut (RepK.cut (by simpa [low] using h) r)
  | _, _, h, .dctT q r => .dctT q.cut (RepT.cut (by simpa [low] using h) r)
  | _, _, h, .ins hc q r => .ins hc q.cut (RepF.cut (by simpa [low] using h) r)
theorem Reps.cut : ∀ {d : List D} {v : List V}, lowL n d = true → Reps K mg ω H d v → Reps K mg (ω.cut n) H d v
  | _, _, _, .nil => .nil
  | _, _, h, .cons r rs => by
    simp only [lowL, Bool.and_eq_true] at h
    exact .cons (Rep.cut h.1 r) (Reps.cut h.2 rs)
theorem RepK.cut : ∀ {d : List (D × D)} {v : List (Key × V)}, lowK n d = true → RepK K mg ω H d v → RepK K mg (ω.cut n) H d v
  | _, _, _, .nil => .nil
  | _, _, h, .cons q r rs => by
    simp only [lowK, Bool.and_eq_true] at h
    exact .cons q (Rep.cut h.1 r) (RepK.cut h.2 rs)
theorem RepT.cut : ∀ {d : List (D × D)} {v : List (List Key × V)}, lowK n d = true → RepT K mg ω H d v → RepT K mg (ω.cut n) H d v
  | _, _, _, .nil => .nil
  | _, _, h, .cons q r rs => by
    simp only [lowK, Bool.and_eq_true] at h
    exact .cons q (Rep.cut h.1 r) (RepT.cut h.2 rs)
theorem RepF.cut : ∀ {d : List (Str × D)} {v : List (Str × V)}, lowF n d = true → RepF K mg ω H d v → RepF K mg (ω.cut n) H d v
  | _, _, _, .nil => .nil
  | _, _, h, .cons r rs => by
    simp only [lowF, Bool.and_eq_true] at h
    exact .cons (Rep.cut h.1 r) (RepF.cut h.2 rs)
end
theorem reps_opt {f : D → Option D} (ih : ∀ d d' v, f d = some d' → Rep K mg ω H d v → Rep K mg ω1 H d' v) : ∀ {ds es : List D} {vs : List V}, optAll f ds = some es → Reps K mg ω H ds vs → Reps K mg ω1 H es vs
  | [], es, _, h, r => by cases h; cases r; exact .nil
  | d :: ds, es, _, h, .cons r rs => by
    unfold optAll at h
    split at h
    · rename_i x xs h1 h2
      cases h
      exact .cons (ih _ _ _ h1 r) (reps_opt ih h2 rs)
    · cases h
theorem repK_opt {f : D → Option D} (ih : ∀ d d' v, f d = some d' → Rep K mg ω H d v → Rep K mg ω1 H d' v) : ∀ {ds es : List (D × D)} {vs : List (Key × V)}, optK f ds = some es → RepK K mg ω H ds vs → RepK K mg ω1 H es vs
  | [], es, _, h, r => by cases h; cases r; exact .nil
  | (k, d) :: ds, es, _, h, .cons q r rs => by
    unfold optK at h
    split at h
    · rename_i x xs h1 h2
      cases h
      exact .cons q (ih _ _ _ h1 r) (repK_opt ih h2 rs)
    · cases h
theorem repT_opt {f : D → Option D} (ih : ∀ d d' v, f d = some d' → Rep K mg ω H d v → Rep K mg ω1 H d' v) : ∀ {ds es : List (D × D)} {vs : List (List Key × V)}, optK f ds = some es → RepT K mg ω H ds vs → RepT K mg ω1 H es vs
  | [], es, _, h, r => by cases h; cases r; exact .nil
  | (k, d) :: ds, es, _, h, .cons q r rs => by
    unfold optK at h
    split at h
    · rename_i x xs h1 h2
      cases h
      exact .cons q (ih _ _ _ h1 r) (repT_opt ih h2 rs)
    · cases h
theorem repF_opt {f : D → Option D} (ih : ∀ d d' v, f d = some d' → Rep K mg ω H d v → Rep K mg ω1 H d' v) : ∀ {ds es : List (Str × D)} {vs : List (Str × V)}, optF f ds = some es → RepF K mg ω H ds vs → RepF K mg ω1 H es vs
  | [], es, _, h, r => by cases h; cases r; exact .nil
  | (k, d) :: ds, es, _, h, .cons r rs => by
    unfold optF at h
    split at h
    · rename_i x xs h1 h2
      cases h
      exact .cons (ih _ _ _ h1 r) (repF_opt ih h2 rs)
    · cases h
theorem frz_rep (st : St0 K mg ω H S) : ∀ (k : Nat) (d d' : D) (v : V), frz S n k d = some d' → Rep K mg ω H d v → Rep K mg (ω.cut n) H d' v
  | 0, d, d', v, h, r => by
    unfold frz at h
    split at h
    · rename_i hl
      cases h; exact r.cut hl
    · cases h
  | k + 1, d, d', v, h, r => by
    unfold frz at h
    split at h
    · rename_i hl
      cases h; exact r.cut hl
    · rename_i hl
      have ih := frz_rep st k
      split at h
      · obtain ⟨es, h2, rfl⟩ := Option.map_eq_some_iff.mp h
        cases r with
        | tup q r => exact .tup q (reps_opt ih h2 r)
      · obtain ⟨es, h2, rfl⟩ := Option.map_eq_some_iff.mp h
        cases r with
        | lst q r => exact .lst q.cut (reps_opt ih h2 r)
      · obtain ⟨es, h2, rfl⟩ := Option.map_eq_some_iff.mp h
        cases r with
        | scr q r => exact .scr q (reps_opt ih h2 r)
      · obtain ⟨es, h2, rfl⟩ := Option.map_eq_some_iff.mp h
        cases r with
        | dct q r => exact .dct q.cut (repK_opt ih h2 r)
        | dctT q r => exact .dctT q.cut (repT_opt ih h2 r)
      · obtain ⟨es, h2, rfl⟩ := Option.map_eq_some_iff.mp h
        cases r with
        | ins hc q r => exact .ins hc q.cut (repF_opt ih h2 r)
      · rename_i l
        cases r with
        | ref hr =>
        have hn : n ≤ l := by
          have : ¬ l < n := by simpa [low] using hl
          omega
        have fz : ∀ {a : Addr} {o : HO}, ω.at_[l]? = some a → H a = some o → Fzn (ω.cut n) H a o := fun {a o} h1 h2 => ⟨.inr (by
          have : (ω.at_.drop n)[l - n]? = some a := by rw [List.getElem?_drop, show n + (l - n) = l by omega]; exact h1
          exact List.mem_of_getElem? this), .inl h2⟩
        split at h
        · rename_i xs hx
          obtain ⟨es, h2, rfl⟩ := Option.map_eq_some_iff.mp h
          obtain ⟨o, ho, r⟩ := st.obs _ _ _ hx hr
          cases r with
          | lst r => exact .lst (fz hr ho) (reps_opt ih h2 r)
        · rename_i t xs hx
          obtain ⟨es, h2, rfl⟩ := Option.map_eq_some_iff.mp h
          obtain ⟨o, ho, r⟩ := st.obs _ _ _ hx hr
          cases r with
          | dct r => exact .dct (fz hr ho) (repK_opt ih h2 r)
          | dctT r => exact .dctT (fz hr ho) (repT_opt ih h2 r)
        · rename_i c xs hx
          obtain ⟨es, h2, rfl⟩ := Option.map_eq_some_iff.mp h
          obtain ⟨o, ho, r⟩ := st.obs _ _ _ hx hr
          cases r with
          | ins hc r => exact .ins hc (fz hr ho) (repF_opt ih h2 r)
        · cases h
      · rename_i k1 k2 k3 k4 k5 k6
        cases h
        cases d <;> first | exact r.cut rfl | (exfalso; first | exact k1 _ rfl | exact k2 _ rfl | exact k3 _ rfl | exact k4 _ _ rfl | exact k5 _ _ rfl | exact k6 _ rfl)
theorem obr_low {ob : Ob} {o : HO} (h : lowOb n ob = true) (r : ObR K mg ω H ob o) : ObR K mg (ω.cut n) H ob o := by
  cases r with
  | lst r => exact .lst (r.cut h)
  | dct r => exact .dct (r.cut h)
  | dctT r => exact .dctT (r.cut h)
  | ins hc r => exact .ins hc (r.cut h)
theorem obr_frz (st : St0 K mg ω H S) {ob ob' : Ob} {o : HO} (h : frzOb S n ob = some ob') (r : ObR K mg ω H ob o) : ObR K mg (ω.cut n) H ob' o := by
  cases r with
  | lst r =>
    obtain ⟨es, h2, rfl⟩ := Option.map_eq_some_iff.mp h
    exact .lst (reps_opt (frz_rep st 40) h2 r)
  | dct r =>
    obtain ⟨es, h2, rfl⟩ := Option.map_eq_some_iff.mp h
    exact .dct (repK_opt (frz_rep st 40) h2 r)
  | dctT r =>
    obtain ⟨es, h2, rfl⟩ := Option.map_eq_some_iff.mp h
    exact .dctT (repT_opt (frz_rep st 40) h2 r)
  | ins hc r =>
    obtain ⟨es, h2, rfl⟩ := Option.map_eq_some_iff.mp h
    exact .ins hc (repF_opt (frz_rep st 40) h2 r)
theorem lowS_at : ∀ {S : Sto} {l : Nat} {ob : Ob}, lowS n S = true → S[l]? = some ob → lowOb n ob = true
  | [], _, _, _, h => by simp at h
  | o :: S, 0, ob, h, e => by
    simp only [lowS, Bool.and_eq_true] at h
    simp at e; subst e; exact h.1
  | o :: S, l + 1, ob, h, e => by
    simp only [lowS, Bool.and_eq_true] at h
    exact lowS_at h.2 (by simpa using e)
theorem optAll_at {α β : Type} {f : α → Option β} : ∀ {xs : List α} {ys : List β} {i : Nat} {y : β}, optAll f xs = some ys → ys[i]? = some y → ∃ x, xs[i]? = some x ∧ f x = some y
  | [], ys, i, y, h, e => by cases h; simp at e
  | x :: xs, ys, i, y, h, e => by
    unfold optAll at h
    split at h
    · rename_i a b h1 h2
      cases h
      cases i with
      | zero => simp at e; subst e; exact ⟨x, rfl, h1⟩
      | succ j => 
        obtain ⟨z, h3, h4⟩ := optAll_at h2 (by simpa using e)
        exact ⟨z, by simpa using h3, h4⟩
    · cases h
theorem ok_cut (k : Ok ω H) : Ok (ω.cut n) H :=
  ⟨k.nd.sublist (List.take_sublist _ _), fun a ha hm => by
    rcases hm with hm | hm
    · exact k.dis a (List.mem_of_mem_take ha) hm
    · have h := k.nd
      rw [← List.take_append_drop n ω.at_] at h
      exact (List.nodup_append.mp h).2.2 a ha a hm rfl, fun a ha => k.kind a (List.mem_of_mem_take ha), fun a hm => by
    rcases hm with hm | hm
    · exact k.imm a hm
    · obtain ⟨o, h, _⟩ := k.kind a (List.mem_of_mem_drop hm)
      exact ⟨o, h⟩⟩
theorem settle_st {S' : Sto} (st : St0 K mg ω H S) (hn : n ≤ S.length) (h : settle S n = some S') : St0 K mg (ω.cut n) H S' := by
  unfold settle at h
  split at h
  · rename_i hl
    cases h
    refine ⟨ok_cut st.ok, by show _ = (ω.at_.take n).length; rw [List.length_take, List.length_take, st.len], fun l ob a h1 h2 => ?_⟩
    have hlt : l < n := by have := (List.getElem?_eq_some_iff.mp h1).1; simp at this; omega
    have h3 : S[l]? = some ob := by rw [← List.getElem?_take_of_lt hlt]; exact h1
    have h4 : ω.at_[l]? = some a := by rw [← List.getElem?_take_of_lt hlt]; exact h2
    obtain ⟨o, q, r⟩ := st.obs l ob a h3 h4
    exact ⟨o, q, obr_low (lowS_at hl h1) r⟩
  · have hlen := optAll_length h
    refine ⟨ok_cut st.ok, by show _ = (ω.at_.take n).length; rw [← hlen, List.length_take, List.length_take, st.len], fun l ob a h1 h2 => ?_⟩
    obtain ⟨ob0, h0, hf⟩ := optAll_at h h1
    have hlt : l < n := by have := (List.getElem?_eq_some_iff.mp h0).1; simp at this; omega
    have h3 : S[l]? = some ob0 := by rw [← List.getElem?_take_of_lt hlt]; exact h0
    have h4 : ω.at_[l]? = some a := by rw [← List.getElem?_take_of_lt hlt]; exact h2
    obtain ⟨o, q, r⟩ := st.obs l ob0 a h3 h4
    exact ⟨o, q, obr_frz st hf r⟩
theorem ext_cut (hl : ω.at_.length = n) (e : Ext ω H ω1 H1) : Ext ω H (ω1.cut n) H1 := by
  obtain ⟨m, em, hm⟩ := e.more
  refine ⟨⟨[], ?_, by simp⟩, fun a h => .inl (e.mono a h), fun a h => ?_, e.keep, e.there⟩
  · show ω1.at_.take n = _
    rw [em, ← hl, List.take_left]; simp
  · rcases h with h | h
    · exact e.new a h
    · rw [em, ← hl, List.drop_left] at h
      exact .inr (hm a h)
theorem Ext.len (e : Ext ω H ω1 H1) : ω.at_.length ≤ ω1.at_.length := by
  obtain ⟨m, em, _⟩ := e.more
  rw [em]; simp
theorem fr_start {N : List Str} {ds : List D} {vs : List V} (r : Reps K mg ω H ds vs) : FrR K mg ω H (startR N.length ds) (L2.start N vs) := by
  refine ⟨?_, fun i d h => ?_⟩
  · unfold startR L2.start
    simp [r.length]
  · unfold startR at h
    by_cases hi : i < ds.length
    · rw [List.getElem?_append_left (by simpa using hi), List.getElem?_map] at h
      cases e : ds[i]? with
      | none => rw [e] at h; cases h
      | some d' =>
        rw [e] at h
        cases h
        obtain ⟨v, hv, rv⟩ := r.get e
        refine ⟨v, ?_, rv⟩
        unfold L2.start
        rw [List.getElem?_append_left (by simp; rw [← r.length]; exact hi), List.getElem?_map, hv]
        rfl
    · rw [List.getElem?_append_right (by simpa using hi), List.getElem?_replicate] at h
      split at h <;> cases h
/-- the ends -/
theorem end_go {keep : Bool} {r : Fl} {Q : VK} {E : XK} {W : WX} (st : St0 K mg ω H S) (hW : ∀ c d σ H, E c d H → W c d σ H) (p : PostF K mg ω H (endFn keep S r) Q E) :
    PostS K mg W ω H r { nx := fun _ H' => Q .non H', rt := Q } := by
  have fin : ∀ {d : D} {S1 : Sto} {v : V} {ω' : Om} {H' : Hp}, PostF K mg ω H (endD keep S d S1) Q E → Ext ω H ω' H' → St0 K mg ω' H' S1 → Rep K mg ω' H' d v → Q v H' := fun {d S1 v ω' H'} p e s rr => by
    unfold endD at p
    split at p
    · exact p v ω' H' e s rr
    · split at p
      · rename_i d' S' h1 h2
        have hl : ω.at_.length = S.length := st.len.symm
        exact p v (ω'.cut S.length) H' (ext_cut hl e) (settle_st s (by have := e.len; rw [s.len]; omega) h2) (frz_rep s 40 _ _ _ h1 rr)
      · exact p.elim
  cases r with
  | nx ρ S1 => exact fun σ' ω' H' e s f => fin (d := .non) p e s .non
  | rt d S1 => exact fun v ω' H' e s rr => fin p e s rr
  | bk ρ S1 => exact p.elim
  | ct ρ S1 => exact p.elim
  | bad => exact p.elim
  | ex x ρ S1 =>
    intro c dx σ' ω' H' e s f xr
    refine hW _ _ _ _ ?_
    change PostF K mg ω H (endX keep S x S1) Q E at p
    unfold endX at p
    split at p
    · exact p c dx ω' H' e s xr
    · split at p
      · rename_i fs S' h1 h2
        have hl : ω.at_.length = S.length := st.len.symm
        refine p c dx (ω'.cut S.length) H' (ext_cut hl e) (settle_st s (by have := e.len; rw [s.len]; omega) h2) ⟨xr.1, ?_⟩
        rcases xr.2 with z | ⟨d, gs, z1, z2, z3⟩
        · rw [z] at h1; cases h1; exact .inl rfl
        · exact .inr ⟨d, gs, z1, z2, repF_opt (frz_rep s 40) h1 z3⟩
      · exact p.elim
end

/-! ### a def by its body -/
theorem fnd_of {P : Program} {w : World} {K : PySem.W.Frag} {mg : Str → Option Value} {base : Heap} {k : Nat} {f : Addr} {name qual : Str} {params : Arguments} {body : List Stmt} {scope : Scope} {dV kV doc pm cdv ct oc : Value} {an od : Option Addr}
    {osl : Array (Option Value)} {N ps : List Str} {keep : Bool} {t : St'} (lk : K.lookup f = some ⟨oc, od, .func (PySem.W.fnOf name qual params body scope dV kV doc pm an cdv ct), osl⟩) (hcd : PySem.W.codeIn K cdv qual = true) (S : FnScope N ps scope)
    (hbody : ∀ (A : Around) (outer : List Env) (s : Shared) (H : Hp) (E : XK), Room k (A.deeper (envOfC qual scope s.heap.objs.size f cdv)) → (A.deeper (envOfC qual scope s.heap.objs.size f cdv)).guards = some [] →
      Takes (cxOf (L2.CX P w) P w K mg base N qual scope f cdv A outer s H E) (fun c d _ H => E c d H) →
      PassesOwn (model P w) (A.deeper (envOfC qual scope s.heap.objs.size f cdv)) (cxOf (L2.CX P w) P w K mg base N qual scope f cdv A outer s H E).env (cxOf (L2.CX P w) P w K mg base N qual scope f cdv A outer s H E).xe →
      DB (cxOf (L2.CX P w) P w K mg base N qual scope f cdv A outer s H E) (fun c d _ H => E c d H) body t) :
    FnD P w K mg base (k + 1) f (PySem.W.fnOf name qual params body scope dV kV doc pm an cdv ct) ps (mkFn N.length ps.length keep t) := by
  have hlen : ∀ ds S, mkFn N.length ps.length keep t ds S ≠ .bad → ds.length = ps.length := fun ds S h => by
    unfold mkFn at h
    split at h
    · rename_i e; exact e
    · exact absurd rfl h
  refine ⟨hlen, fun A outer s H args us vs Q E hr hg e0 hb r hsp => ?_⟩
  obtain ⟨ω, ds, S0, st, rr, p⟩ := hsp
  have hdl : ds.length = ps.length := hlen ds S0 fun e => by rw [e] at p; exact p
  have hl : vs.length = ps.length := by rw [← rr.length]; exact hdl
  have KX : K.In s.heap := e0.mod.kin.keeps fun b o e => (e0.bs b o e).1
  have lim : s.heap.NoLimit := e0.mod.nolimit.keeps fun b o e => (e0.bs b o e).1
  have hkind : ∀ y ∈ ps.zip us, scope.names.lookup y.1 = some .local ∨ (scope.names.lookup y.1 = some .cell ∧ ((cellsFrom (s.heap.objs.size + 1) scope.names []).lookup y.1).isSome = true) := fun y hy => by
    rcases S.par y.1 (List.of_mem_zip hy).1 with q | q
    · exact .inl q
    · exact .inr ⟨q, PySem.W.cellsFrom_some _ _ _ (.inl q)⟩
  refine codeAny_call_function hr.depth (KX _ _ lk) rfl S.co S.gen rfl (PySem.W.codeRec_of KX hcd) (hb _ _ _ _ ?_)
  refine wpAny_newFunctionEnv_cells S.kind hkind fun env he s1 x => ?_
  subst he
  refine ⟨lim.keeps x.toInCall.keep, codeAny_func ?_⟩
  have tk : Takes (cxOf (L2.CX P w) P w K mg base N qual scope f cdv A outer s H E) (fun c d _ H => E c d H) := takes_of rfl rfl rfl rfl
  have pw : PassesOwn (model P w) (A.deeper (envOfC qual scope s.heap.objs.size f cdv)) (cxOf (L2.CX P w) P w K mg base N qual scope f cdv A outer s H E).env (cxOf (L2.CX P w) P w K mg base N qual scope f cdv A outer s H E).xe := passes_of (X := cxOf (L2.CX P w) P w K mg base N qual scope f cdv A outer s H E) rfl
  have ht := hbody A outer s H E (hr.deeper _) hg tk pw
  have I : L2.Inv (cxOf (L2.CX P w) P w K mg base N qual scope f cdv A outer s H E) [] (L2.start N vs) H s1 := inv_start S hr.hd e0 hl r x
  have hq : tDS K mg (fun c d _ H => E c d H) t { nx := fun _ H' => Q .non H', rt := Q } (L2.start N vs) H := by
    refine ⟨ω, startR N.length ds, S0, ⟨st, fr_start rr⟩, ?_⟩
    unfold mkFn at p
    rw [if_pos hdl] at p
    exact end_go st (fun _ _ _ _ h => h) p
  refine wpAny_mono (ht.run [] s1 (L2.start N vs) H _ I hq) (fun fl s' hs => ?_) fun e s' hs => hs
  have fin : ∀ {σ' : L2.St} {H' : Hp} {v : V} {u : Value}, L2.Inv (cxOf (L2.CX P w) P w K mg base N qual scope f cdv A outer s H E) [] σ' H' s' → RelV v u → Q v H' → CE outer P w H s Q u s' :=
    fun {σ' H' v u} J rv q => ⟨v, H', J.os, J.bare, J.base, J.hok, rv, q⟩
  cases fl with
  | ret u =>
    obtain ⟨v, σ', H', J, rv, q⟩ := hs
    exact fin J rv q
  | next =>
    obtain ⟨σ', H', J, q⟩ := hs
    exact fin (v := V.non) (u := Value.none) J rfl q
  | brk =>
    obtain ⟨_, _, _, q⟩ := hs
    exact False.elim q
  | cont =>
    obtain ⟨_, _, _, q⟩ := hs
    exact False.elim q
end PL
end
section
set_option Elab.async false
set_option linter.all false
set_option maxRecDepth 100000
set_option maxHeartbeats 4000000
set_option autoImplicit false
/-! Part na: dict comprehensions, loops over a dict's pairs, two clauses, three names at once. -/
namespace PL
open PySem L2

/-! ### what nobody knows is written -/
section
variable {K : PySem.W.Frag} {mg : Str → Option Value} {ω ω1 : Om} {H : Hp} {D0 : Addr} {o0 o : HO}
theorem repK_upd (hk : isMut o0 = true) (hd : H D0 = some o0) (hm : ¬ ω.M D0) {d : List (D × D)} {v : List (Key × V)} (r : RepK K mg ω H d v) : RepK K mg ω (upd H D0 o) d v := by
  have := obr_upd (o' := o) hk hd hm (ObR.dct r)
  cases this with
  | dct r => exact r
theorem st_upd {S : Sto} (hk : isMut o0 = true) (hd : H D0 = some o0) (ha : D0 ∉ ω.at_) (hm : ¬ ω.M D0) (s : St0 K mg ω H S) : St0 K mg ω (upd H D0 o) S :=
  ⟨⟨s.ok.nd, s.ok.dis, fun a h => by
      obtain ⟨o', q, m⟩ := s.ok.kind a h
      exact ⟨o', by rw [upd_ne (fun e => by subst e; exact ha h)]; exact q, m⟩, fun a h => by
      obtain ⟨o', q⟩ := s.ok.imm a h
      exact ⟨o', by rw [upd_ne (fun e => by subst e; exact hm h)]; exact q⟩⟩, s.len, fun l ob a h1 h2 => by
    obtain ⟨o', q, r⟩ := s.obs l ob a h1 h2
    exact ⟨o', by rw [upd_ne (fun e => by subst e; exact ha (List.mem_of_getElem? h2))]; exact q, obr_upd hk hd hm r⟩⟩
theorem fr_upd {ρ : Fr} {σ : St} (hk : isMut o0 = true) (hd : H D0 = some o0) (hm : ¬ ω.M D0) (f : FrR K mg ω H ρ σ) : FrR K mg ω (upd H D0 o) ρ σ :=
  ⟨f.len, fun i d q => let ⟨v, h, r⟩ := f.val i d q; ⟨v, h, rep_upd hk hd hm r⟩⟩
theorem ext_upd {H1 : Hp} (n : H1 D0 = none) (e : Ext ω1 H1 ω H) : Ext ω1 H1 ω (upd H D0 o) :=
  ⟨e.more, e.mono, e.new, fun a o' q m => by rw [upd_ne (ne_of_none q n)]; exact e.keep a o' q m, fun a o' q => by
    obtain ⟨o2, z⟩ := e.there a o' q
    exact ⟨o2, by rw [upd_ne (ne_of_none q n)]; exact z⟩⟩
end

/-! ### dict comprehensions -/
def runDC (T : Tg) (c : EvB) (fk fv : Ev) (s : Src) : Nat → Nat → Fr → List (D × D) → Sto → Res (List (D × D))
  | 0, _, _, _, _ => .bad
  | n + 1, i, ρ, acc, S => match itemAt s i S with
    | none => .bad
    | some none => .ok acc S
    | some (some d) => match setT T d ρ with
      | none => .bad
      | some ρ1 => match c ρ1 S with
        | .ok true S1 => match fk ρ1 S1 with
          | .ok k S2 => match fv ρ1 S2 with
            | .ok v S3 => match keyOf k with
              | some κ => if acc.length < sizeLine then runDC T c fk fv s n (i + 1) ρ (putL acc κ k v) S3 else .bad
              | none => .bad
            | _ => .bad
          | _ => .bad
        | .ok false S1 => runDC T c fk fv s n (i + 1) ρ acc S1
        | _ => .bad
def nDC (T : Tg) (it : EvS) (c : EvB) (fk fv : Ev) (vs : List Nat) : EvN := fun ρ S => (it ρ S).bind fun s S1 => (runDC T c fk fv s (srcFuel s) 0 (wipeR ρ vs) [] S1).bind fun kvs S2 => .ok (.dct false kvs) S2
section
variable {X : Cx} {W : WX} {pos : Pos} {tg iter kx vx : Expr} {T : Tg} {it : EvS} {A : EvB} {f g : Ev}
theorem tDI_bindN {K : PySem.W.Frag} {mg : Str → Option Value} {W : WX} {ω : Om} {H : Hp} {σ : St} {ρ : Fr} {S : Sto} {f : EvS} {k : Src → Sto → Res Ob} {Q : VK} {R : It → Hp → Prop} (a : At K mg ω H σ ρ S) (p : PostN K mg W ω H σ ((f ρ S).bind k) Q)
    (hk : ∀ s S1 J ω1 H1, Ext ω H ω1 H1 → At K mg ω1 H1 σ ρ S1 → SrcJ K mg J s ω1 H1 → PostN K mg W ω1 H1 σ (k s S1) Q → R J H1) : tDI K mg W f σ H R := by
  refine ⟨ω, ρ, S, a, ?_⟩
  unfold PostI
  split
  · rename_i s S1 q; rw [q] at p; exact fun J ω' H' e s' r => hk s S1 J ω' H' e (a.go e s') r (PostN.sh e p)
  · rename_i x S1 q
    rw [q] at p
    exact p
  · rename_i q; rw [q] at p; exact p
abbrev dcEnd (r : Res (List (D × D))) : Res Ob := r.bind fun kvs S2 => .ok (.dct false kvs) S2
theorem dc_rd {vs : List Nat} {σ : St} {H : Hp} {Q : VK} (hsl : ∀ i ∈ slots T, i ∈ vs) (h : tDN X.K X.mg W (nDC T it A f g vs) σ H Q) : tDc (tDI X.K X.mg W it) (tDG X.K X.mg T) (tDT X.K X.mg W0 A) (tD X.K X.mg W0 f) (tD X.K X.mg W0 g) vs σ H Q := by
  obtain ⟨ω, ρ, S, a, p⟩ := h
  refine tDI_bindN a p fun s S1 J ω1 H1 e1 a1 sj p1 => fun D0 hD => ?_
  let Wv : Nat → Nat → Hp → Prop := fun i m H => ∃ ω S acc us, St0 X.K X.mg ω H S ∧ FrR X.K X.mg ω H (wipeR ρ vs) (wipe σ vs) ∧ Ext ω1 H1 ω H ∧ H D0 = some (.dK us) ∧ D0 ∉ ω.at_ ∧ ¬ ω.M D0 ∧ RepK X.K X.mg ω H acc us ∧ PostN X.K X.mg W ω1 H1 σ (dcEnd (runDC T A f g s m i (wipeR ρ vs) acc S)) Q
  refine ⟨Wv, ⟨_, ω1, S1, [], [], st_new a1.st hD, (a1.fr.wipe vs).keep a1.st.ok (ext_new hD), ext_new hD, upd_same, a1.notAt hD, a1.notM hD, .nil, p1⟩, ?_⟩
  rintro i m H2 ⟨ω2, S2, acc, us, s2, f2, e2, hd2, na2, nm2, r2, p2⟩
  cases m with
  | zero => exact p2.elim
  | succ n =>
    unfold runDC at p2
    obtain ⟨j1, j2⟩ := sj ω2 H2 S2 e2 s2 i
    cases hq : itemAt s i S2 with
    | none => rw [hq] at p2; exact p2.elim
    | some od =>
    rw [hq] at p2
    cases od with
    | none => exact .inl ⟨j1 hq, p2 D0 _ ω2 H2 e2 s2 hD hd2 (.dct r2) na2 nm2⟩
    | some d =>
    obtain ⟨gg, y⟩ := j2 d hq
    refine .inr ⟨gg, Wv (i + 1) n, fun H' z => ⟨n, Nat.lt_succ_self n, z⟩, fun x H3 hy => ?_⟩
    obtain ⟨e3, s3, r3⟩ := y x H3 hy
    cases eT : setT T d (wipeR ρ vs) with
    | none => simp only [eT] at p2; exact p2.elim
    | some ρ3 =>
    simp only [eT] at p2
    have a2 : At X.K X.mg ω2 H2 (wipe σ vs) (wipeR ρ vs) S2 := ⟨s2, f2⟩
    refine ⟨ω2, d, _, S2, ρ3, a2.go e3 s3, r3, eT, fun σ4 f4 w4 => ⟨?_, ?_⟩⟩
    · rw [w4 vs hsl, wipe_wipe fun _ z => z]
    · have stay : ∀ {ω' : Om} {H' : Hp}, Ext ω2 H2 ω' H' → H' D0 = some (.dK us) ∧ D0 ∉ ω'.at_ ∧ ¬ ω'.M D0 := fun {ω' H'} e => by
        refine ⟨e.keep _ _ hd2 na2, fun hm => ?_, fun hm => ?_⟩
        · rcases e.mem hm with z | z
          · exact na2 z
          · rw [hd2] at z; cases z
        · rcases e.new _ hm with z | z
          · exact nm2 z
          · rw [hd2] at z; cases z
      refine ⟨ω2, ρ3, S2, ⟨s3, f4⟩, ?_⟩
      cases hA : A ρ3 S2 with
      | ex z S5 => simp only [hA] at p2; exact p2.elim
      | bad => simp only [hA] at p2; exact p2.elim
      | ok t S5 =>
      intro ω5 H5 e5 s5
      have e25 := e3.trans e5
      obtain ⟨hd5, na5, nm5⟩ := stay e25
      cases t with
      | false =>
        simp only [hA] at p2
        rw [if_neg Bool.false_ne_true]
        exact ⟨ω5, S5, acc, us, s5, f2.keep s2.ok e25, e2.trans e25, hd5, na5, nm5, r2.keep s2.ok e25, p2⟩
      | true =>
        simp only [hA] at p2
        rw [if_pos rfl]
        refine ⟨ω5, ρ3, S5, ⟨s5, f4.keep s3.ok e5⟩, ?_⟩
        cases hf : f ρ3 S5 with
        | ex z S6 => simp only [hf] at p2; exact p2.elim
        | bad => simp only [hf] at p2; exact p2.elim
        | ok kd S6 =>
        simp only [hf] at p2
        intro yv ω6 H6 e6 s6 r6
        refine ⟨ω6, ρ3, S6, ⟨s6, (f4.keep s3.ok e5).keep s5.ok e6⟩, ?_⟩
        cases hv : g ρ3 S6 with
        | ex z S7 => simp only [hv] at p2; exact p2.elim
        | bad => simp only [hv] at p2; exact p2.elim
        | ok vd S7 =>
        simp only [hv] at p2
        intro zv ω7 H7 e7 s7 r7
        cases hk : keyOf kd with
        | none => simp only [hk] at p2; exact p2.elim
        | some κ =>
        simp only [hk] at p2
        have e27 := (e25.trans e6).trans e7
        obtain ⟨hd7, na7, nm7⟩ := stay e27
        have r27 := r2.keep s2.ok e27
        have hl : acc.length < sizeLine := by
          rcases Nat.lt_or_ge acc.length sizeLine with z | z
          · exact z
          · rw [if_neg (Nat.not_lt.mpr z)] at p2; exact p2.elim
        rw [if_pos hl] at p2
        refine ⟨us, κ, keyOf_is hk (r6.keep s6.ok e7) , hd7, by rw [← r27.length]; exact hl, ω7, S7, putL acc κ kd vd, putK us κ zv, st_upd rfl hd7 na7 nm7 s7, fr_upd rfl hd7 nm7 (f2.keep s2.ok e27), ext_upd hD (e2.trans e27), upd_same, na7, nm7, ?_, p2⟩
        exact putL_rep hk (rep_upd rfl hd7 nm7 r7) (repK_upd rfl hd7 nm7 r27)
theorem dn_dc {scope : Scope} {own : List (Str × Nat)} {ifs : List Expr} (hc : X.calm = true) (hN : X.N.Nodup) (hi : DI X W tg iter it) (ok : BlkOk X.N X.env.scope scope own) (hsl : ∀ i ∈ slots T, i ∈ own.map (·.2))
    (hg : ∀ (s : Shared) (H : Hp) (C : Addr) (cl : List (Str × Addr)) (fp : List Addr), DG (X.blk s H scope (compEnvC scope cl C X.env) fp) tg T) (ht : ∀ (s : Shared) (H : Hp) (C : Addr) (cl : List (Str × Addr)) (fp : List Addr), DTs (X.blk s H scope (compEnvC scope cl C X.env) fp) W0 ifs A)
    (hk : ∀ (s : Shared) (H : Hp) (C : Addr) (cl : List (Str × Addr)) (fp : List Addr), DE (X.blk s H scope (compEnvC scope cl C X.env) fp) W0 kx f) (he : ∀ (s : Shared) (H : Hp) (C : Addr) (cl : List (Str × Addr)) (fp : List Addr), DE (X.blk s H scope (compEnvC scope cl C X.env) fp) W0 vx g) (hs : ∀ x, foldedSetIterable iter X.env x = pure x) :
    DN X W (.DictComp kx vx [⟨tg, iter, ifs, 0⟩] scope pos) (nDC T it A f g (own.map (·.2))) := PE.imp (pe_dc hc hN hi ok hg ht hk he hs) fun _ _ _ h => dc_rd hsl h
end

theorem keyOf_repK {K : PySem.W.Frag} {mg : Str → Option Value} {ω : Om} {H : Hp} {k : D} {κ : Key} (h : keyOf k = some κ) : Rep K mg ω H k (kV κ) := by
  cases k <;> simp [keyOf] at h
  · subst h; exact .int _
  · subst h; exact .str _
theorem repK_len {K : PySem.W.Frag} {mg : Str → Option Value} {ω : Om} {H : Hp} : ∀ {d : List (D × D)} {v : List (Key × V)}, RepK K mg ω H d v → d.length = v.length
  | _, _, .nil => rfl
  | _, _, .cons _ _ r => by simp [repK_len r]
theorem repK_get {K : PySem.W.Frag} {mg : Str → Option Value} {ω : Om} {H : Hp} : ∀ {d : List (D × D)} {v : List (Key × V)} {i : Nat} {c : D × D}, RepK K mg ω H d v → d[i]? = some c → ∃ κ x, v[i]? = some (κ, x) ∧ Rep K mg ω H c.1 (kV κ) ∧ Rep K mg ω H c.2 x
  | _, _, _, _, .nil, h => by simp at h
  | _, _, 0, _, .cons hk r _, h => by simp at h; subst h; exact ⟨_, _, rfl, keyOf_repK hk, r⟩
  | _, _, i + 1, c, .cons _ _ rs, h => by
    obtain ⟨κ, x, a, b, e⟩ := repK_get (i := i) (c := c) rs (by simpa using h)
    exact ⟨κ, x, by simpa using a, b, e⟩

/-! ### a dict of ours is locked while its pairs are walked -/
section
variable {K : PySem.W.Frag} {mg : Str → Option Value} {ω ω' : Om} {H H' : Hp} {d : Addr} {ws : List (Key × V)} {od : Obj}
theorem lockS {a : Addr} {vs : List V} (hd : H d = some (.dK ws)) (h : Scr K H a vs) : Scr K (upd H d (.frz od (.dK ws))) a vs := h.imp (fun ⟨ob, h⟩ => ⟨ob, by rw [upd_ne (fun e => by subst e; rw [hd] at h; cases h)]; exact h⟩) id
theorem lockZ {a : Addr} {o : HO} (hm : ω.M d) (hd : H d = some (.dK ws)) (h : Fzn ω H a o) : Fzn ω (upd H d (.frz od (.dK ws))) a o := by
  by_cases e : a = d
  · subst e
    refine ⟨h.1, ?_⟩
    rcases h.2 with q | ⟨_, ob, q⟩
    · rw [hd] at q; cases q; exact .inr ⟨rfl, od, upd_same⟩
    · rw [hd] at q; cases q
  · exact h.over e
theorem unlockS {a : Addr} {vs : List V} (hd : H d = some (.frz od (.dK ws))) (h : Scr K H a vs) : Scr K (upd H d (.dK ws)) a vs := h.imp (fun ⟨ob, h⟩ => ⟨ob, by rw [upd_ne (fun e => by subst e; rw [hd] at h; cases h)]; exact h⟩) id
theorem unlockZ {a : Addr} {o : HO} (hd : H d = some (.frz od (.dK ws))) (hk : isMut o = true) (h : Fzn ω H a o) : Fzn ω (upd H d (.dK ws)) a o := by
  by_cases e : a = d
  · subst e
    refine ⟨h.1, ?_⟩
    rcases h.2 with q | ⟨_, ob, q⟩
    · rw [hd] at q; cases q; cases hk
    · rw [hd] at q; cases q; exact .inl upd_same
  · exact h.over e
theorem lockT {a : Addr} {o o' : HO} {vs : List V} (hd : H d = some o) (ho : ∀ vs, o ≠ .tup vs) (h : H a = some (.tup vs)) : upd H d o' a = some (.tup vs) := by
  rw [upd_ne (fun e => by subst e; rw [hd] at h; cases h; exact ho _ rfl)]; exact h
theorem lock_rep {x : D} {v : V} (hm : ω.M d) (hd : H d = some (.dK ws)) (r : Rep K mg ω H x v) : Rep K mg ω (upd H d (.frz od (.dK ws))) x v := r.mapR (fun _ _ => lockT hd (fun _ e => nomatch e)) (fun _ _ => lockS hd) (fun _ _ _ => lockZ hm hd) fun _ _ h => h
theorem lock_obr {ob : Ob} {o : HO} (hm : ω.M d) (hd : H d = some (.dK ws)) (r : ObR K mg ω H ob o) : ObR K mg ω (upd H d (.frz od (.dK ws))) ob o := r.mapR (fun _ _ => lockT hd (fun _ e => nomatch e)) (fun _ _ => lockS hd) (fun _ _ _ => lockZ hm hd) fun _ _ h => h
theorem unlock_rep {x : D} {v : V} (hd : H d = some (.frz od (.dK ws))) (r : Rep K mg ω H x v) : Rep K mg ω (upd H d (.dK ws)) x v := r.mapR (fun _ _ => lockT hd (fun _ e => nomatch e)) (fun _ _ => unlockS hd) (fun _ _ => unlockZ hd) fun _ _ h => h
theorem unlock_obr {ob : Ob} {o : HO} (hd : H d = some (.frz od (.dK ws))) (r : ObR K mg ω H ob o) : ObR K mg ω (upd H d (.dK ws)) ob o := r.mapR (fun _ _ => lockT hd (fun _ e => nomatch e)) (fun _ _ => unlockS hd) (fun _ _ => unlockZ hd) fun _ _ h => h
theorem st_lock {S : Sto} {o' : HO} (hm : ω.M d) (s : St0 K mg ω H S) (g : ∀ {ob : Ob} {o : HO}, ObR K mg ω H ob o → ObR K mg ω (upd H d o') ob o) : St0 K mg ω (upd H d o') S :=
  have nd : ∀ {a : Addr}, a ∈ ω.at_ → a ≠ d := fun ha e => by subst e; exact s.ok.dis _ ha hm
  ⟨⟨s.ok.nd, s.ok.dis, fun a h => by
      obtain ⟨o, q, m⟩ := s.ok.kind a h
      exact ⟨o, by rw [upd_ne (nd h)]; exact q, m⟩, fun a h => by
      by_cases e : a = d
      · subst e; exact ⟨o', upd_same⟩
      · obtain ⟨o, q⟩ := s.ok.imm a h
        exact ⟨o, by rw [upd_ne e]; exact q⟩⟩, s.len, fun l ob a h1 h2 => by
    obtain ⟨o, q, r⟩ := s.obs l ob a h1 h2
    exact ⟨o, by rw [upd_ne (nd (List.mem_of_getElem? h2))]; exact q, g r⟩⟩
theorem at_lock {S : Sto} {ρ : Fr} {σ : St} (hm : ω.M d) (hd : H d = some (.dK ws)) (a : At K mg ω H σ ρ S) : At K mg ω (upd H d (.frz od (.dK ws))) σ ρ S :=
  ⟨st_lock hm a.st (lock_obr hm hd), a.fr.len, fun i x q => let ⟨v, h, r⟩ := a.fr.val i x q; ⟨v, h, lock_rep hm hd r⟩⟩
theorem fr_unlock {ρ : Fr} {σ : St} (hd : H d = some (.frz od (.dK ws))) (f : FrR K mg ω H ρ σ) : FrR K mg ω (upd H d (.dK ws)) ρ σ := ⟨f.len, fun i x q => let ⟨v, h, r⟩ := f.val i x q; ⟨v, h, unlock_rep hd r⟩⟩
/-- what is found behind the lock -/
theorem ext_unlock {k : Ok ω H} (hm : ω.M d) (hd : H d = some (.dK ws)) (e : Ext ω (upd H d (.frz od (.dK ws))) ω' H') : H' d = some (.frz od (.dK ws)) ∧ Ext ω H ω' (upd H' d (.dK ws)) := by
  have nd : d ∉ ω.at_ := fun z => k.dis d z hm
  have fr : ∀ {a : Addr}, upd H d (.frz od (.dK ws)) a = none → H a = none := fun {a} q => by
    by_cases z : a = d
    · subst z; rw [upd_same] at q; cases q
    · rwa [upd_ne z] at q
  refine ⟨e.keep d _ upd_same nd, ⟨?_, e.mono, fun a h => ?_, fun a o h n => ?_, fun a o h => ?_⟩⟩
  · obtain ⟨m, em, hm'⟩ := e.more
    exact ⟨m, em, fun a ha => fr (hm' a ha)⟩
  · rcases e.new a h with q | q
    · exact .inl q
    · exact .inr (fr q)
  · by_cases z : a = d
    · subst z; rw [hd] at h; cases h; exact upd_same
    · rw [upd_ne z]; exact e.keep a o (by rw [upd_ne z]; exact h) n
  · by_cases z : a = d
    · subst z; exact ⟨_, upd_same⟩
    · obtain ⟨o', q⟩ := e.there a o (by rw [upd_ne z]; exact h)
      exact ⟨o', by rw [upd_ne z]; exact q⟩
/-- no way out by an exception -/
def noEx : Fl → Fl
  | .ex _ _ _ => .bad
  | r => r
theorem post_lock {W : WX} {r : Fl} {D : Ends} (k : Ok ω H) (hm : ω.M d) (hd : H d = some (.dK ws)) (p : PostS K mg W ω H (noEx r) D) :
    PostS K mg W ω (upd H d (.frz od (.dK ws))) (noEx r) ⟨fun σ' H' => H' d = some (.frz od (.dK ws)) ∧ D.nx σ' (upd H' d (.dK ws)), fun v H' => H' d = some (.frz od (.dK ws)) ∧ D.rt v (upd H' d (.dK ws)), fun σ' H' => H' d = some (.frz od (.dK ws)) ∧ D.bk σ' (upd H' d (.dK ws)), fun σ' H' => H' d = some (.frz od (.dK ws)) ∧ D.ct σ' (upd H' d (.dK ws))⟩ := by
  have un : ∀ {ω' : Om} {H' : Hp} {S : Sto}, Ext ω (upd H d (.frz od (.dK ws))) ω' H' → St0 K mg ω' H' S → H' d = some (.frz od (.dK ws)) ∧ Ext ω H ω' (upd H' d (.dK ws)) ∧ St0 K mg ω' (upd H' d (.dK ws)) S := fun {ω' H' S} e s => by
    obtain ⟨h1, h2⟩ := ext_unlock (k := k) hm hd e
    exact ⟨h1, h2, st_lock (e.mono d hm) s (unlock_obr h1)⟩
  cases r with
  | nx ρ S => exact fun σ' ω' H' e s f => let ⟨h1, h2, h3⟩ := un e s; ⟨h1, p σ' ω' _ h2 h3 (fr_unlock h1 f)⟩
  | bk ρ S => exact fun σ' ω' H' e s f => let ⟨h1, h2, h3⟩ := un e s; ⟨h1, p σ' ω' _ h2 h3 (fr_unlock h1 f)⟩
  | ct ρ S => exact fun σ' ω' H' e s f => let ⟨h1, h2, h3⟩ := un e s; ⟨h1, p σ' ω' _ h2 h3 (fr_unlock h1 f)⟩
  | rt x S => exact fun v ω' H' e s r => let ⟨h1, h2, h3⟩ := un e s; ⟨h1, p v ω' _ h2 h3 (unlock_rep h1 r)⟩
  | ex x ρ S => exact p.elim
  | bad => exact p.elim
end
/-- for k, v in d.items(), d a name -/
def pairsD (kvs : List (D × D)) : List D := kvs.map fun kv => .tup [kv.1, kv.2]
def sForI (i : Nat) (T : Tg) (b : St') : St' := fun ρ S => match ρ[i]? with
  | some (some (.dct false kvs)) => noEx (runFor T b (.one (.fix (pairsD kvs))) (kvs.length + 1) 0 ρ S)
  | _ => .bad
section
variable {X : Cx} {W : WX} {pos : Pos} {tg iter : Expr} {body : List Stmt} {T : Tg} {b : St'}
theorem noEx_id {r : Fl} {K : PySem.W.Frag} {mg : Str → Option Value} {W : WX} {ω : Om} {H : Hp} {D : Ends} (p : PostS K mg W ω H (noEx r) D) : PostS K mg W ω H r D := by
  cases r <;> first | exact p | exact False.elim p
theorem noEx_in {r : Fl} {K : PySem.W.Frag} {mg : Str → Option Value} {W : WX} {ω : Om} {H : Hp} {D : Ends} (p : PostS K mg W ω H (noEx r) D) : noEx r = r := by
  cases r <;> first | rfl | exact False.elim p
/-- a loop's turns -/
theorem for_turns {K : PySem.W.Frag} {mg : Str → Option Value} {ω1 : Om} {H1 : Hp} {σ : St} {ρ : Fr} {S1 : Sto} {J : It} {s : Src} {m : Nat} {D : Ends} (a1 : At K mg ω1 H1 σ ρ S1) (sj : SrcJ K mg J s ω1 H1) (p1 : PostS K mg W ω1 H1 (runFor T b s m 0 ρ S1) D) :
    ∃ V : Nat → Nat → St → Hp → Prop, (∃ m, V 0 m σ H1) ∧ ∀ i m σ H, V i m σ H → (J.stop i H ∧ D.nx σ H) ∨ (J.go i H ∧ ∃ N : St → Hp → Prop, (∀ σ' H', N σ' H' → ∃ m', m' < m ∧ V (i + 1) m' σ' H') ∧ ∀ x H', J.yld i H x H' → tDG K mg T x σ H' fun σ2 H2 => tDS K mg W b { D with nx := N, ct := N, bk := D.nx } σ2 H2) := by
  let V : Nat → Nat → St → Hp → Prop := fun i m σ H => ∃ ω ρ S, At K mg ω H σ ρ S ∧ Ext ω1 H1 ω H ∧ PostS K mg W ω H (runFor T b s m i ρ S) D
  refine ⟨V, ⟨_, ω1, ρ, S1, a1, Ext.refl, p1⟩, ?_⟩
  rintro i m σ2 H2 ⟨ω2, ρ2, S2, a2, e2, p2⟩
  cases m with
  | zero => exact p2.elim
  | succ n =>
    unfold runFor at p2
    obtain ⟨j1, j2⟩ := sj ω2 H2 S2 e2 a2.st i
    cases hq : itemAt s i S2 with
    | none => rw [hq] at p2; exact p2.elim
    | some oi =>
    rw [hq] at p2
    cases oi with
    | none => exact .inl ⟨j1 hq, p2 σ2 ω2 H2 Ext.refl a2.st a2.fr⟩
    | some d =>
    obtain ⟨g, y⟩ := j2 d hq
    refine .inr ⟨g, V (i + 1) n, fun σ' H' z => ⟨n, Nat.lt_succ_self n, z⟩, fun x H3 hy => ?_⟩
    obtain ⟨e3, s3, r3⟩ := y x H3 hy
    cases eT : setT T d ρ2 with
    | none => simp only [eT] at p2; exact p2.elim
    | some ρ3 =>
    simp only [eT] at p2
    refine ⟨ω2, d, ρ2, S2, ρ3, a2.go e3 s3, r3, eT, fun σ4 f4 _ => ⟨ω2, ρ3, S2, ⟨s3, f4⟩, ?_⟩⟩
    have p3 := PostS.sh e3 p2
    clear p2
    unfold orBad at p3
    cases hb' : b ρ3 S2 with
    | nx ρ4 S4 => simp only [hb'] at p3; exact fun σ5 ω5 H5 e5 s5 f5 => ⟨ω5, ρ4, S4, ⟨s5, f5⟩, (e2.trans e3).trans e5, PostS.sh e5 p3⟩
    | ct ρ4 S4 => simp only [hb'] at p3; exact fun σ5 ω5 H5 e5 s5 f5 => ⟨ω5, ρ4, S4, ⟨s5, f5⟩, (e2.trans e3).trans e5, PostS.sh e5 p3⟩
    | bk ρ4 S4 => simp only [hb'] at p3; exact p3
    | rt d S4 => simp only [hb'] at p3; exact p3
    | ex z ρ4 S4 => simp only [hb'] at p3; exact p3
    | bad => simp only [hb'] at p3; exact p3
/-- the pairs of a locked dict -/
theorem srcJ_items {K : PySem.W.Frag} {mg : Str → Option Value} {ω : Om} {H : Hp} {d : Addr} {o : Obj} {kvs : List (D × D)} {ws : List (Key × V)} (k : Ok ω H) (hd : H d = some (.frz o (.dK ws))) (r : RepK K mg ω H kvs ws) : SrcJ K mg (Iti d o ws) (.one (.fix (pairsD kvs))) ω H := by
  intro ω' H' S' e st i
  have nd : d ∉ ω.at_ := k.notMem hd rfl
  have hd' := e.keep d _ hd nd
  have r' := r.keep k e
  have len : ∀ {kvs : List (D × D)} {ws : List (Key × V)}, RepK K mg ω' H' kvs ws → kvs.length = ws.length := fun r => by
    exact repK_len r
  simp only [itemAt, at1, pairsD, List.getElem?_map]
  refine ⟨fun z => ?_, fun x z => ?_⟩
  · have z : kvs[i]? = none := by
      cases q : kvs[i]? with
      | none => rfl
      | some c => rw [q] at z; simp at z
    exact ⟨hd', by rw [← len r']; exact List.getElem?_eq_none_iff.mp z⟩
  · cases q : kvs[i]? with
    | none => rw [q] at z; simp at z
    | some c =>
      rw [q] at z
      simp at z
      subst z
      obtain ⟨κ, v, e1, e2, e3⟩ := repK_get r' q
      refine ⟨⟨hd', (List.getElem?_eq_some_iff.mp e1).1⟩, fun x H2 y => ?_⟩
      obtain ⟨T, k', v', f1, rfl, hn, rfl⟩ := y
      rw [e1] at f1
      cases f1
      exact new_pair st hn e2 e3
/-- for k, v in d.items(): d a name of the def -/
theorem ds_items {i : Nat} {x : Str} {p apos cpos tpos : Pos} {elts : List Expr} {kk : Nat} (hp : PassesOwn (model X.prog X.w) X.A X.env X.xe) (hc : X.calm = true) (hN : X.N[i]? = some x) (hv : Vis X.env.scope x) (hd : (x == ("__debug__" : Str)) = false) (hcd : (x == ("__classdict__" : Str)) = false)
    (hline : (apos.endLine == cpos.line) = true) (hg : DG X (.Tuple elts kk tpos) T) (hb : DB X W body b) : DS X W (.For (.Tuple elts kk tpos) (.Call (.Attribute (.Name x p) "items" apos) [] [] cpos) body [] pos) (sForI i T b) := by
  have base := ps_for (pos := pos) hp hc (pi_items (elts := elts) (kk := kk) (tpos := tpos) (apos := apos) (cpos := cpos) (pe_var (pos := p) hN hv hd hcd) (by rfl) hline) hg hb (fun _ => rfl)
  refine ⟨fun pins s σ H D I ⟨ω, ρ, S, a, q⟩ => ?_⟩
  unfold sForI at q
  split at q
  · rename_i kvs hi
    obtain ⟨v, hσ, r⟩ := a.fr.val i _ hi
    cases r with
    | @dct d _ ws hq rk =>
    rcases hq.2 with z | ⟨_, ob, z⟩
    · refine (ps_lock base).run pins s σ H D I ⟨d, .dK ws, z, trivial, fun od => ?_⟩
      have aL := at_lock (od := od) hq.1 z a
      have rL : RepK X.K X.mg ω (upd H d (.frz od (.dK ws))) kvs ws := by
        have := lock_obr (od := od) hq.1 z (ObR.dct rk)
        cases this with
        | dct r => exact r
      exact ⟨.ref d, hσ, d, od, ws, rfl, upd_same, for_turns aL (srcJ_items aL.st.ok upd_same rL) (noEx_id (post_lock a.st.ok hq.1 z q))⟩
    · exact base.run pins s σ H D I ⟨.ref d, hσ, d, ob, ws, rfl, z, for_turns a (srcJ_items a.st.ok z rk) (noEx_id q)⟩
  · exact q.elim
end

/-! ### three names at once -/
def par3 (i j l : Nat) (ρ : Fr) (ds : List D) (S1 : Sto) : Fl := match ds with
  | [d, e, g] => .nx (((ρ.set i (some d)).set j (some e)).set l (some g)) S1
  | _ => .bad
def sPar3 (i j l : Nat) (F : EvL) : St' := fun ρ S => (F ρ S).thenS ρ fun ds S1 => par3 i j l ρ ds S1
section
variable {X : Cx} {W : WX} {pos : Pos}
theorem ds_par3 {i j l : Nat} {x y z : Str} {a b c : Expr} {F : EvL} {px py pz pt : Pos} {kt k2 : Nat} {pt2 : Pos} (hc : X.calm = true) (hN : X.N.Nodup) (hi : X.N[i]? = some x) (hj : X.N[j]? = some y) (hl : X.N[l]? = some z) (hij : i ≠ j) (hil : i ≠ l) (hjl : j ≠ l)
    (hx : X.env.scope.names.lookup x = some .local) (hy : X.env.scope.names.lookup y = some .local) (hz : X.env.scope.names.lookup z = some .local) (ha : DA X W [a, b, c] F)
    (hw : swappedStores [.Tuple [.Name x px, .Name y py, .Name z pz] kt pt] (.Tuple [a, b, c] k2 pt2) X.env = pure (some [x, y, z])) (hs : swapsWithSole [.Tuple [.Name x px, .Name y py, .Name z pz] kt pt] (.Tuple [a, b, c] k2 pt2) pos.line X.env = pure false) :
    DS X W (.Assign [.Tuple [.Name x px, .Name y py, .Name z pz] kt pt] (.Tuple [a, b, c] k2 pt2) pos) (sPar3 i j l F) := PS.imp (ps_par3 hc hN hi hj hl hij hil hjl hx hy hz ha hw hs) fun En σ H ⟨ω, ρ, S, at_, h⟩ => by
  refine ⟨ω, ρ, S, at_, ?_⟩
  have go : ∀ r : Res (List D), F ρ S = r → PostA X.K X.mg W ω H σ r (fun vs H1 => ∃ u v w, vs = [u, v, w] ∧ En.nx (((σ.set i (some u)).set j (some v)).set l (some w)) H1) := fun r er => by
    unfold sPar3 at h
    rw [er] at h
    cases r with
    | ok ds S1 =>
      intro vs ω' H' e s r
      have h2 : PostS X.K X.mg W ω H (par3 i j l ρ ds S1) En := h
      clear h er
      unfold par3 at h2
      split at h2
      · cases r with
        | cons r1 r =>
        cases r with
        | cons r2 r =>
        cases r with
        | cons r3 r =>
        cases r
        exact ⟨_, _, _, rfl, h2 _ ω' H' e s ((((at_.fr.keep at_.st.ok e).set r1).set r2).set r3)⟩
      · exact h2.elim
    | ex x S1 => exact fun c dx ω' H' e s r => h c dx σ ω' H' e s (at_.go e s).fr r
    | bad => exact h
  exact go _ rfl
end

/-! ### [..] * n as a new list -/
def repOb (xs : List D) (k : D) (S : Sto) : Res Ob := match k with
  | .int k => if -(2 ^ 63) ≤ k ∧ k < 2 ^ 63 ∧ lenFits (xs.length * k.toNat) = true then .ok (.lst (List.replicate k.toNat xs).flatten) S else .bad
  | _ => .bad
def nRep (F : EvL) (g : Ev) : EvN := fun ρ S => (F ρ S).bind fun xs S1 => (g ρ S1).bind fun k S2 => repOb xs k S2
theorem dn_rep {X : Cx} {W : WX} {a b : Expr} {F : EvL} {g : Ev} {pos : Pos} (ha : DL X W a F) (hb : DE X W b g) : DN X W (.BinOp a .Mult b pos) (nRep F g) := PE.imp (pe_op op_rep ha hb) fun σ H Q ⟨ω, ρ, S, at_, p⟩ => by
  unfold nRep at p
  refine tDL_go at_ (fun ds S1 q pa vs ω1 H1 e1 a1 n h1 na nm rr => ?_) (fun x S1 q => by rw [q] at p; exact p) fun q => by rw [q] at p; exact p
  rw [q] at p
  have p1 : PostN X.K X.mg W ω1 H1 σ ((g ρ S1).bind fun k S2 => repOb ds k S2) Q := PostN.sh e1 p
  refine tD_go a1 (fun d S2 q2 v ω2 H2 e2 a2 r2 => ?_) (fun x S2 q2 => by rw [q2] at p1; exact p1) fun q2 => by rw [q2] at p1; exact p1
  rw [q2] at p1
  have p2 : PostN X.K X.mg W ω2 H2 σ (repOb ds d S2) Q := PostN.sh e2 p1
  unfold repOb at p2
  split at p2
  · rename_i k
    split at p2
    · rename_i hm
      cases r2
      have hl := lenFits_le hm.2.2
      rw [rr.length] at hl
      exact ⟨pa, k, vs, rfl, rfl, e2.keep _ _ h1 na, hm.1, hm.2.1, hl, fun q' n' => PostN.fin a2 p2 n' (.lst ((rr.keep a1.st.ok e2).flat _))⟩
    · exact p2.elim
  · exact p2.elim
end PL
end
section
set_option Elab.async false
set_option linter.all false
set_option maxRecDepth 100000
set_option maxHeartbeats 4000000
set_option autoImplicit false
/-! Part nb: range downwards, list(range(n)), a display of one key, sorted(set(..)). -/
namespace PL
open PySem L2 PySem.Spec PyProof.Rows

/-! ### range(i, j, -1) -/
def downD (i : Int) (n : Nat) : List D := (List.range n).map fun (k : Nat) => .int (i + (k : Int) * (-1))
def range3 (d e c : D) (S : Sto) : Res Src := match d, e, c with
  | .int i, .int j, .int k => if k = -1 ∧ small62 i = true ∧ small62 j = true then .ok (.one (.fix (downD i (i - j).toNat))) S else .bad
  | _, _, _ => .bad
def iRange3 (f g h : Ev) : EvS := fun ρ S => (f ρ S).bind fun d S1 => (g ρ S1).bind fun e S2 => (h ρ S2).bind fun c S3 => range3 d e c S3
section
variable {K : PySem.W.Frag} {mg : Str → Option Value} {ω : Om} {H : Hp}
theorem srcJ_down {lo : Int} {n : Nat} : SrcJ K mg (Itc lo (-1) n) (.one (.fix (downD lo n))) ω H := by
  intro ω' H' S' e st i
  simp only [itemAt, at1, downD, List.getElem?_map]
  refine ⟨fun z => ?_, fun d z => ?_⟩
  · by_cases hi : i < n
    · simp [hi] at z
    · exact Nat.le_of_not_lt hi
  · by_cases hi : i < n
    · rw [List.getElem?_range hi] at z
      obtain rfl := Option.some.inj (Option.some.inj z)
      refine ⟨hi, fun x H2 y => ?_⟩
      obtain ⟨rfl, rfl⟩ := y
      exact ⟨Ext.refl, st, .int _⟩
    · simp [hi] at z
end
def three {α : Type} (k : D → D → D → Sto → Res α) (ds : List D) (S : Sto) : Res α := match ds with
  | [d, e, c] => k d e c S
  | _ => .bad
theorem three_bad {α : Type} {k : D → D → D → Sto → Res α} {ds : List D} {S : Sto} {P : Res α → Prop} (hb : ¬ P .bad) (p : P (three k ds S)) : ∃ d e c, ds = [d, e, c] ∧ P (k d e c S) := by
  unfold three at p
  split at p
  · exact ⟨_, _, _, rfl, p⟩
  · exact absurd p hb
theorem bind3 {α : Type} {f g h : Ev} {k : List D → Sto → Res α} {ρ : Fr} {S : Sto} : ((aCons f (aCons g (aCons h aNil))) ρ S).bind k = (f ρ S).bind fun d S1 => (g ρ S1).bind fun e S2 => (h ρ S2).bind fun c S3 => k [d, e, c] S3 := by
  unfold aCons aNil
  cases f ρ S with
  | ok d S1 =>
    simp only [Res.bind]
    cases g ρ S1 with
    | ok e S2 =>
      simp only [Res.bind]
      cases h ρ S2 <;> rfl
    | ex x S2 => rfl
    | bad => rfl
  | ex x S1 => rfl
  | bad => rfl
section
variable {X : Cx} {W : WX} {tg : Expr} {f g h : Ev} {p pos : Pos}
theorem di_range3 {a b c : Expr} (hg : Gl X "range") (hm : X.mg "range" = none) (ha : DE X W a f) (hb : DE X W b g) (hc : DE X W c h)
    (hs : starEach [a, b, c] X.env = (false, eval a X.env) :: starEach [b, c] X.env) (hs' : starEach [b, c] X.env = (false, eval b X.env) :: starEach [c] X.env) (hs2 : starEach [c] X.env = [(false, eval c X.env)]) :
    DI X W tg (.Call (.Name "range" p) [a, b, c] [] pos) (iRange3 f g h) :=
  PI.imp (pi_range3 hg hm (da_cons ha (da_cons hb (da_cons hc da_nil hs2) hs') hs) hs (by rw [hs', hs2]; rfl)) fun σ H R ⟨ω, ρ, S, at_, q⟩ => by
    have q' : PostI X.K X.mg W ω H σ (((aCons f (aCons g (aCons h aNil))) ρ S).bind (three range3)) R := by rw [bind3]; exact q
    refine tDA_bindI at_ q' fun ds S1 vs ω1 H1 e1 a1 r1 q1 => ?_
    obtain ⟨d, d', d'', rfl, q2⟩ := three_bad (P := fun z => PostI X.K X.mg W ω1 H1 σ z R) (fun z => z) q1
    cases r1 with
    | cons r rr => cases rr with
      | cons r' rr => cases rr with
        | cons r'' rr =>
          cases rr
          unfold range3 at q2
          split at q2
          · split at q2
            · rename_i i j k hk
              cases r; cases r'; cases r''
              obtain ⟨rfl, hi, hj⟩ := hk
              obtain ⟨z1, z2⟩ := small62_ok hi
              obtain ⟨z3, z4⟩ := small62_ok hj
              exact ⟨_, _, _, _, rfl, RgC.neg z1 z2 z3 z4, q2 _ ω1 H1 Ext.refl a1.st srcJ_down⟩
            · exact q2.elim
          · exact q2.elim
end

/-! ### list(range(n)) -/
def rgOb (d : D) (S : Sto) : Res Ob := match d with
  | .int n => if 0 ≤ n ∧ n ≤ 1000000 then .ok (.lst (rangeD 0 n.toNat)) S else .bad
  | _ => .bad
def nRg (f : Ev) : EvN := fun ρ S => (f ρ S).bind rgOb
theorem reps_rg {K : PySem.W.Frag} {mg : Str → Option Value} {ω : Om} {H : Hp} {lo : Int} : ∀ l : List Nat, Reps K mg ω H (l.map fun (i : Nat) => D.int (lo + (i : Int))) (l.map fun (i : Nat) => V.int (lo + (i : Nat)))
  | [] => .nil
  | i :: l => .cons (.int _) (reps_rg l)
section
variable {X : Cx} {W : WX} {f g : Ev} {p p2 pos q : Pos}
theorem dn_rg {a : Expr} (hc : X.calm = true) (hg : Gl X "list") (hm : X.mg "list" = none) (hg2 : Gl X "range") (hm2 : X.mg "range" = none) (ha : DE X W a f) (hs : starEach [a] X.env = [(false, eval a X.env)]) :
    DN X W (.Call (.Name "list" p) [.Call (.Name "range" p2) [a] [] q] [] pos) (nRg f) :=
  PE.imp (pe_listRg hc hg hm (prg_1 hg2 hm2 ha hs)) fun σ H Q ⟨ω, ρ, S, at_, z⟩ => by
    unfold nRg at z
    refine tD_go at_ (fun d S1 q v ω1 H1 e1 a1 r1 => ?_) (fun x S1 q => by rw [q] at z; exact z) fun q => by rw [q] at z; exact z
    rw [q] at z
    have z1 : PostN X.K X.mg W ω1 H1 σ (rgOb d S1) Q := PostN.sh e1 z
    unfold rgOb at z1
    split at z1
    · split at z1
      · rename_i n hn
        cases r1
        refine ⟨n, rfl, RgOk.of_le (Int.le_refl _) (Int.le_trans hn.2 (by decide)) (by decide) hn.1, fun q' n' => PostN.fin a1 z1 n' (.lst ?_)⟩
        unfold rangeD rgV
        rw [show n - 0 = n by omega]
        exact reps_rg _
      · exact z1.elim
    · exact z1.elim

/-! ### {k: v} -/
def nDisp1 (f g : Ev) : EvN := fun ρ S => (f ρ S).bind fun k S1 => (g ρ S1).bind fun v S2 => match keyOf k with
  | some _ => .ok (.dct false [(k, v)]) S2
  | none => .bad
theorem dn_disp1 {a b : Expr} (ha : DE X W a f) (hb : DE X W b g) : DN X W (.Dict [some a] [b] pos) (nDisp1 f g) :=
  PE.imp (pe_disp (pps_cons ha (hb) pps_nil) rfl rfl (by simp) (show 1 ≤ 15 by decide)) fun σ H Q ⟨ω, ρ, S, at_, z⟩ => fun D0 hD => by
    unfold nDisp1 at z
    have e0 : Ext ω H ω (upd H D0 (.dK [])) := ext_new hD
    have a0 : At X.K X.mg ω (upd H D0 (.dK [])) σ ρ S := at_.go e0 (st_new at_.st hD)
    have na0 := at_.notAt hD
    have nm0 := at_.notM hD
    refine tD_go a0 (fun d S1 q v ω1 H1 e1 a1 r1 => ?_) (fun x S1 q => by rw [q] at z; exact fun c dx ω' H' e' s r => z c dx ω' H' (e0.trans e') s r) fun q => by rw [q] at z; exact z
    rw [q] at z
    refine tD_go a1 (fun d2 S2 q2 v2 ω2 H2 e2 a2 r2 => ?_) (fun x S2 q2 => by rw [Res.bind, q2] at z; exact fun c dx ω' H' e' s r => z c dx ω' H' ((e0.trans e1).trans e') s r) fun q2 => by rw [Res.bind, q2] at z; exact z
    rw [Res.bind, q2] at z
    have e02 := (e1.trans e2)
    have hk0 : H2 D0 = some (.dK []) := e02.keep _ _ upd_same na0
    have na2 : D0 ∉ ω2.at_ := fun hm => by
      rcases e02.mem hm with y | y
      · exact na0 y
      · rw [upd_same] at y; cases y
    have nm2 : ¬ ω2.M D0 := fun hm => by
      rcases e02.new _ hm with y | y
      · exact nm0 y
      · rw [upd_same] at y; cases y
    cases hk : keyOf d with
    | none => simp only [hk, Res.bind] at z; exact z.elim
    | some κ =>
    simp only [hk, Res.bind] at z
    refine ⟨hk0, [(κ, v2)], by rw [keyOf_is hk (r1.keep a1.st.ok e2)]; rfl, by simp, ?_⟩
    refine z D0 _ ω2 _ (ext_upd hD (e0.trans e02)) (st_upd rfl hk0 na2 nm2 a2.st) hD upd_same (.dct ?_) na2 nm2
    exact .cons hk (rep_upd rfl hk0 nm2 r2) .nil
end
end PL
end
section
set_option Elab.async false
set_option linter.all false
set_option maxRecDepth 100000
set_option maxHeartbeats 4000000
set_option autoImplicit false
/-! Part nc: sorted(set(a list of numbers)). -/
namespace PL
open PySem L2 PySem.Spec PyProof.Rows

section
variable {P : Program} {w : World} {A : Around} {E : Value → Shared → Prop} {s : Shared}
set_option maxHeartbeats 6400000 in
/-- set(xs) of a list of ints, as the hand layer has it for a tuple -/
theorem set_ofList {l : Addr} {items : Array Value} (ns : List Int) {Q : Value → Shared → Prop} (hh : A.handled = none) (hl : s.heap.IsList l items) (hit : IntsAre items.toList ns) (hb : ns.length + 1 < scanBound)
    (h : ∀ (h' : Heap) (tk c : Nat), SetR w h' s.heap.objs.size (fun j => decide (j ∈ ns)) c → c ≤ ns.length → (∀ b o, s.heap.get? b = some o → h'.get? b = some o) → Q (.ref s.heap.objs.size) { s with heap := h', toks := tk }) :
    wpAny (model P w) A (call (.type "set") [.ref l]) Q E s := by
  have sz : items.size = ns.length := by
    have q := IntsAre.length hit
    rw [Array.length_toList] at q
    exact q
  obtain ⟨c, tl, hmro⟩ := F.called_set.mro
  have hmade := F.called_set.made
  have hsub := F.called_set.sub
  refine wpAny_call (codeAny_of_tree ?_)
  show wpAny _ _ (callAny (.type "set") _) _ _ _
  refine wpAny_pure ⟨Code.quiet_builtin _ (by decide +kernel), codeAny_builtin F.entry_type_call ?_⟩
  rw [Around.under_plain (weight_type_call_type "set" [.ref l] []) rfl]
  have h1 := F.called_set.notType
  have h2 := F.called_set.canCreate
  have hct := F.typeCall_set_1 (.ref l)
  repeat (any_goals (first | assumption | wp_step))
  let so : Obj := { cls := .type "set", dict := none, data := .set #[] 0 (.fresh 0 0 (!w.params.followText "set-order")) }
  refine codeAny_mono (code_set_led1 (.ref l) (E := E) (Q₁ := fun obj s₁ => obj = .ref s.heap.objs.size ∧ s₁ = { s with heap := s.heap.push so }) ⟨rfl, rfl⟩) fun r s₁ hr => ?_
  cases r with
  | error e => exact hr
  | ok fl =>
    cases fl with
    | ret obj =>
      obtain ⟨rfl, rfl⟩ := hr
      have hS : (s.heap.push so).get? s.heap.objs.size = some so := Heap.get?_push_size _ rfl
      have hT : Shared.TypeIs { s with heap := s.heap.push so } (.ref s.heap.objs.size) "set" := ⟨_, hS, rfl⟩
      have hli := F.called_set.init.lookup
      have hbi := F.called_set.init.bind (.ref s.heap.objs.size)
      repeat (any_goals (first | assumption | wp_step))
      refine codeAny_mono (codeAny_call_builtin (R := wants (fun r s₂ => r = .none ∧ ∃ h' tk c, s₂ = { s with heap := h', toks := tk } ∧ SetR w h' s.heap.objs.size (fun j => decide (j ∈ ns)) c ∧ c ≤ ns.length ∧
          (∀ b o, s.heap.get? b = some o → h'.get? b = some o)) E) F.called_set.init.plain F.entry_set_init (check_set_init_1 hT ?_)) fun r₂ s₂ hr₂ => ?_
      · obtain ⟨ol, hol, hcl, nl, hdl⟩ := hl
        obtain ⟨ocls, odict, odata, oslots⟩ := ol
        simp only at hcl hdl
        subst hcl; subst hdl
        have hol' : (s.heap.push so).get? l = some { cls := .type "list", dict := odict, data := .seq items nl, slots := oslots } := Heap.get?_push_of_some _ hol
        have hsls := F.sub_list_set
        have hslf := F.sub_list_frozenset
        have hne : (Value.type "list" == Value.type "dict") = false := by decide
        have hl1 : (s.heap.push so).IsList l items := ⟨_, hol', rfl, nl, rfl⟩
        unfold Builtin.«set.__init__» noKeywords Builtin.Frozenset.updateFrom
        generalize hPI : pyIter = PI
        wp_walk
        subst hPI
        refine wpAny_pyIter_list hl1 ?_
        refine wpAny_bind (wpAny_runValue ?_)
        have hlS : l < s.heap.objs.size := Heap.lt_size hol
        have hh3 : A.in1.in1.in1.handled = none := by simp [hh]
        have hneI : l ≠ (s.heap.push so).objs.size := by
          rw [Heap.size_push]; exact Nat.ne_of_lt (Nat.lt_succ_of_lt hlS)
        have hSf : s.heap.objs.size ∉ [(s.heap.push so).objs.size, l] := by
          rw [Heap.size_push]; simp only [List.mem_cons, List.mem_singleton, List.not_mem_nil, or_false, not_or]
          exact ⟨Nat.ne_of_lt (Nat.lt_succ_self _), Nat.ne_of_gt hlS⟩
        have hval : ∀ (i : Nat) (v : Value), items[i]? = some v → ∃ k t, ns[i]? = some k ∧ v = .int k t := fun i v hv => by
          have hi : i < ns.length := by rw [← sz]; exact (Array.getElem?_eq_some_iff.mp hv).1
          obtain ⟨t, e⟩ := IntsAre.int_at hit i v (by rw [Array.getElem?_toList]; exact hv)
          refine ⟨ns[i], t, List.getElem?_eq_getElem hi, ?_⟩
          rw [e, List.getD_eq_getElem?_getD, List.getElem?_eq_getElem hi] <;> rfl
        refine set_update_ints ((Walks.list hh3 _ l hneI items).toS) s.heap.objs.size
          hSf ns sz hb hval (items.size - 0) 0 _ (by omega) (Nat.zero_le _)
          ⟨⟨_, Heap.get?_push_size _ rfl, rfl, rfl⟩, (hl1.push _)⟩ ?hS0 ?hR
        case hS0 =>
          exact ⟨0, Nat.le_refl 0, setR_new_at (Heap.get?_push_of_some _ hS)⟩
        case hR =>
          intro s' c' hm hc' hS'
          obtain ⟨h', g2, d', tk', os'⟩ := s'
          have eg : g2 = s.gens := hm.gens
          have ed : d' = s.drawn := hm.drawn
          have eo : os' = s.os := hm.os
          subst eg; subst ed; subst eo
          show wpAny _ _ _ _ _ _
          refine wpAny_pure ?_
          show wpAny _ _ (ret Value.none) _ _ _
          rw [sz] at hc'
          refine wpAny_pure ⟨rfl, h', tk', c', rfl, hS', hc', fun b o e => ?_⟩
          have hb0 : b < s.heap.objs.size := Heap.lt_size e
          have hb1 : b ≠ s.heap.objs.size := Nat.ne_of_lt hb0
          have hb2 : b ≠ (s.heap.push so).objs.size := by
            rw [Heap.size_push]; exact Nat.ne_of_lt (Nat.lt_succ_of_lt hb0)
          exact hm.heap b o (by simp only [List.mem_cons, List.mem_singleton, List.not_mem_nil, or_false, not_or]; exact ⟨hb1, hb2⟩) (Heap.get?_push_of_some _ (Heap.get?_push_of_some _ e))
      · cases r₂ with
        | error e => exact hr₂
        | ok fl₂ =>
          cases fl₂ with
          | ret r =>
            obtain ⟨rfl, h', tk, c', rfl, hS', hc', hk'⟩ := hr₂
            repeat (any_goals (first | assumption | wp_step))
            exact h _ _ _ hS' hc' hk'
          | _ => exact hr₂.elim
    | _ => exact hr.elim
end
def tSrtSet (K : PySem.W.Frag) (ta : TE) : TE := fun σ H Q => ta σ H fun x H1 => ∃ (l : Addr) (ns : List Int), x = V.ref l ∧ SqL K H1 l (ns.map V.int) ∧ ns.length < 64 ∧
  ∀ (ms : List Int) (p : Addr), ms.Pairwise (· < ·) → (∀ k, k ∈ ms ↔ k ∈ ns) → H1 p = none → Q (.ref p) (upd H1 p (.lst (ms.map V.int)))
theorem pe_srtSet {X : Cx} {a : Expr} {ta : TE} {p p2 q pos : Pos} (hc : X.calm = true) (hg : Gl X "sorted") (hm : X.mg "sorted" = none) (hg2 : Gl X "set") (hm2 : X.mg "set" = none) (ha : PE X a ta)
    (na : starEach [a] X.env = (false, eval a X.env) :: starEach [] X.env) : PE X (.Call (.Name "sorted" p) [.Call (.Name "set" p2) [a] [] q] [] pos) (tSrtSet X.K ta) := by
  refine ⟨fun pins s σ H Q I h => ?_⟩
  refine Call_ (ld_blt I hg hm PyProof.Rows.boot_sorted ?_)
  refine callWith_builtin1 (args_cons ?_ rfl) rfl rfl
  refine Call_ (ld_blt I hg2 hm2 boot_set ?_)
  refine callWith_type1 (args_cons (thn (ha.run pins s σ H _ I h) fun v s1 ⟨x, H1, I1, r1, q1⟩ => args_nil ?_) na) na rfl
  obtain ⟨l, ns, rfl, hq, hn, q1⟩ := q1
  cases r1
  obtain ⟨its, r, pl, hz⟩ := I1.list hq
  refine set_ofList ns (I1.ok.hd hc) pl.isList (by simpa using r.ints) (by unfold scanBound; omega) fun h' tk c hS hl hk => ?_
  refine args_nil ?_
  have I2 : Inv X pins σ H1 { s1 with heap := h', toks := tk } := I1.kept hk
  have hS2 : SetR X.w ({ s1 with heap := h', toks := tk } : Shared).heap s1.heap.objs.size (fun j => decide (j ∈ ns)) c := hS
  generalize ({ s1 with heap := h', toks := tk } : Shared) = s2 at *
  refine sorted_set hS2 (I2.ok.hd hc) (by omega) fun s' p out c' ms k g o hp hgp hi hs hmem hlen => ?_
  have hlen2 : (ms.map V.int).length ≤ sizeLine := by rw [List.length_map, hlen, sizeLine_eq]; omega
  have hfree : H1 p = none := I2.hok.fresh hp
  have J : Inv X pins σ (upd H1 p (.lst (ms.map V.int))) { s2 with heap := s'.heap, gens := s'.gens, drawn := s'.drawn, toks := s'.toks } :=
    I2.call (ch := []) (Un.laid k hp hfree) (I2.hok.laid k hp ⟨hlen2, out.toList, c', vals_of_ints hi, hgp⟩) (by rw [g]; exact I2.bare) (fun _ z => nomatch z)
  have e : s' = { s2 with heap := s'.heap, gens := s'.gens, drawn := s'.drawn, toks := s'.toks } := by
    cases s'
    cases s2
    cases o
    rfl
  rw [e]
  exact ⟨.ref p, _, J, rfl, q1 ms p hs (fun k => by rw [hmem k]; simp) hfree⟩
def insI (x : Int) : List Int → List Int
  | [] => [x]
  | y :: r => if x < y then x :: y :: r else if x = y then y :: r else y :: insI x r
def srtI (l : List Int) : List Int := l.foldr insI []
theorem insI_mem {x k : Int} : ∀ {l : List Int}, k ∈ insI x l ↔ k = x ∨ k ∈ l
  | [] => by simp [insI]
  | y :: r => by
    unfold insI
    split
    · simp
    · split
      · rename_i h; subst h; simp
      · rw [List.mem_cons, insI_mem (l := r), List.mem_cons]
        constructor
        · rintro (h | h | h)
          · exact .inr (.inl h)
          · exact .inl h
          · exact .inr (.inr h)
        · rintro (h | h | h)
          · exact .inr (.inl h)
          · exact .inl h
          · exact .inr (.inr h)
theorem insI_pw {x : Int} : ∀ {l : List Int}, l.Pairwise (· < ·) → (insI x l).Pairwise (· < ·)
  | [], _ => by simp [insI]
  | y :: r, h => by
    obtain ⟨h1, h2⟩ := List.pairwise_cons.mp h
    unfold insI
    split
    · rename_i hx
      refine List.pairwise_cons.mpr ⟨fun z hz => ?_, h⟩
      rcases List.mem_cons.mp hz with e | e
      · rw [e]; exact hx
      · exact Int.lt_trans hx (h1 z e)
    · split
      · exact h
      · rename_i a b
        refine List.pairwise_cons.mpr ⟨fun z hz => ?_, insI_pw h2⟩
        rcases insI_mem.mp hz with e | e
        · rw [e]; omega
        · exact h1 z e
theorem srtI_mem {k : Int} : ∀ {l : List Int}, k ∈ srtI l ↔ k ∈ l
  | [] => by simp [srtI]
  | x :: l => by
    show k ∈ insI x (srtI l) ↔ _
    rw [insI_mem, srtI_mem (l := l), List.mem_cons]
theorem srtI_pw : ∀ l : List Int, (srtI l).Pairwise (· < ·)
  | [] => List.Pairwise.nil
  | x :: l => insI_pw (srtI_pw l)
theorem lt_unique : ∀ {l m : List Int}, l.Pairwise (· < ·) → m.Pairwise (· < ·) → (∀ k, k ∈ l ↔ k ∈ m) → l = m
  | [], [], _, _, _ => rfl
  | [], y :: m, _, _, h => absurd ((h y).mpr (by simp)) (by simp)
  | x :: l, [], _, _, h => absurd ((h x).mp (by simp)) (by simp)
  | x :: l, y :: m, hl, hm, h => by
    obtain ⟨l1, l2⟩ := List.pairwise_cons.mp hl
    obtain ⟨m1, m2⟩ := List.pairwise_cons.mp hm
    have e : x = y := by
      rcases List.mem_cons.mp ((h x).mp (by simp)) with a | a
      · exact a
      · rcases List.mem_cons.mp ((h y).mpr (by simp)) with b | b
        · exact b.symm
        · have := m1 x a; have := l1 y b; omega
    subst e
    rw [lt_unique l2 m2 fun k => ?_]
    have hk := h k
    rw [List.mem_cons, List.mem_cons] at hk
    constructor
    · intro a
      rcases hk.mp (.inr a) with b | b
      · have := l1 k a; omega
      · exact b
    · intro a
      rcases hk.mpr (.inr a) with b | b
      · have := m1 k a; omega
      · exact b
def srtSetOb (d : D) (S : Sto) : Res Ob := match (listOf S d).bind intsOf with
  | some ns => if ns.length < 64 then .ok (.lst ((srtI ns).map D.int)) S else .bad
  | none => .bad
def nSrtSet (f : Ev) : EvN := fun ρ S => (f ρ S).bind srtSetOb
theorem reps_intsV {K : PySem.W.Frag} {mg : Str → Option Value} {ω : Om} {H : Hp} : ∀ l : List Int, Reps K mg ω H (l.map D.int) (l.map V.int)
  | [] => .nil
  | i :: l => .cons (.int _) (reps_intsV l)
theorem dn_srtSet {X : Cx} {W : WX} {a : Expr} {f : Ev} {p p2 q pos : Pos} (hc : X.calm = true) (hg : Gl X "sorted") (hm : X.mg "sorted" = none) (hg2 : Gl X "set") (hm2 : X.mg "set" = none) (ha : DE X W a f)
    (na : starEach [a] X.env = (false, eval a X.env) :: starEach [] X.env) : DN X W (.Call (.Name "sorted" p) [.Call (.Name "set" p2) [a] [] q] [] pos) (nSrtSet f) :=
  PE.imp (pe_srtSet hc hg hm hg2 hm2 ha na) fun σ H Q ⟨ω, ρ, S, at_, z⟩ => by
    unfold nSrtSet at z
    refine tD_go at_ (fun d S1 q v ω1 H1 e1 a1 r1 => ?_) (fun x S1 q => by rw [q] at z; exact z) fun q => by rw [q] at z; exact z
    rw [q] at z
    have z1 : PostN X.K X.mg W ω1 H1 σ (srtSetOb d S1) Q := PostN.sh e1 z
    unfold srtSetOb at z1
    split at z1
    · rename_i ns hns
      obtain ⟨xs, h1, h2⟩ := Option.bind_eq_some_iff.mp hns
      obtain ⟨l, vs, rfl, hl, rr⟩ := listOf_rep a1.st h1 r1
      have ev := intsOf_rep h2 rr
      split at z1
      · rename_i h64
        refine ⟨l, ns, rfl, SqL.of (by rw [← ev]; exact hl), h64, fun ms p hp hm hn => ?_⟩
        have : ms = srtI ns := lt_unique hp (srtI_pw ns) fun k => by rw [hm k, srtI_mem]
        rw [this]
        exact PostN.fin a1 z1 hn (.lst (reps_intsV _))
      · exact z1.elim
    · exact z1.elim
end PL
end
section
set_option Elab.async false
set_option linter.all false
set_option maxRecDepth 100000
set_option maxHeartbeats 4000000
set_option autoImplicit false
/-! Part o: the mirror of a text: what is computed from it; the context in which it is right. -/
namespace PL
open PySem L2 PySem.Spec PyProof.Rows

/-! ### the built-in names -/
inductive Blt where
  | fn (id : String) (f : List D → Sto → Res D) | ty (T : String) (f : List D → Sto → Res D) | nfn (id : String) (f : List D → Sto → Res Ob) | nty (T : String) (f : List D → Sto → Res Ob)
def blts : List (Str × Blt) :=
  [("len", .fn "len" lenD), ("isinstance", .fn "isinstance" isiD), ("all", .fn "all" allD), ("any", .fn "any" anyD), ("tuple", .ty "tuple" tupleD), ("list", .nty "list" listN), ("sorted", .nfn "sorted" sortedN),
   ("repr", .fn "repr" reprD), ("max", .fn "max" maxD), ("min", .fn "min" minD), ("int", .ty "int" intD), ("bool", .ty "bool" boolD), ("abs", .fn "abs" absD), ("sum", .fn "sum" sumD), ("dict", .nty "dict" dictN), ("str", .ty "str" strD)]
def bltTys : List (Str × String) := [("int", "int"), ("str", "str"), ("bool", "bool"), ("tuple", "tuple"), ("list", "list"), ("dict", "dict")]
def bltNames : List Str := ["len", "isinstance", "all", "any", "tuple", "list", "sorted", "repr", "max", "min", "int", "bool", "abs", "sum", "dict", "str", "range", "enumerate", "zip", "set", "super"]
def mtabs : List (Str × MTab) :=
  [("append", [("list", appendD)]), ("extend", [("list", extendD)]), ("pop", [("list", lpopD)]), ("insert", [("list", insertD)]), ("reverse", [("list", reverseD)]), ("join", [("str", joinD)]), ("upper", [("str", upperD)]), ("get", [("dict", getD')])]

theorem lookup_mem {α : Type} {x : Str} {b : α} : ∀ {l : List (Str × α)}, l.lookup x = some b → (x, b) ∈ l
  | [], h => by cases h
  | (y, c) :: r, h => by
    rw [List.lookup_cons] at h
    split at h
    · rename_i e
      cases h
      rw [eq_of_beq e]; exact List.mem_cons_self ..
    · exact List.mem_cons_of_mem _ (lookup_mem h)
def BltOk (X : Cx) (x : Str) (b : Blt) : Prop := match b with
  | .fn id f => bootBuiltins x = some (.builtin id) ∧ CallD X (.builtin id) f
  | .ty T f => bootBuiltins x = some (.type T) ∧ CallD X (.type T) f
  | .nfn id f => bootBuiltins x = some (.builtin id) ∧ CallN X (.builtin id) f
  | .nty T f => bootBuiltins x = some (.type T) ∧ CallN X (.type T) f
def plainName (x : Str) : Bool := !(x == ("__debug__" : Str)) && !(x == ("__classdict__" : Str)) && !(x == ("__name__" : Str))
theorem plainName_ok {x : Str} (h : plainName x = true) : (x == ("__debug__" : Str)) = false ∧ (x == ("__classdict__" : Str)) = false ∧ x ≠ ("__name__" : Str) := by
  simp only [plainName, Bool.and_eq_true, Bool.not_eq_true'] at h
  exact ⟨h.1.1, h.1.2, fun e => by rw [e] at h; exact absurd h.2 (by simp)⟩
theorem boots : (blts.all fun p => plainName p.1 && match p.2 with
    | .fn id _ => bootBuiltins p.1 == some (.builtin id)
    | .ty T _ => bootBuiltins p.1 == some (.type T)
    | .nfn id _ => bootBuiltins p.1 == some (.builtin id)
    | .nty T _ => bootBuiltins p.1 == some (.type T)) = true := by decide +kernel
theorem blts_ok {X : Cx} (hc : X.calm = true) (hg : X.A.guards = some []) (hu : X.A.units + 130 < cLine) : ∀ x b, blts.lookup x = some b → BltOk X x b ∧ plainName x = true := by
  intro x b h
  have hm := lookup_mem h
  have hb := List.all_eq_true.mp boots _ hm
  simp only [Bool.and_eq_true] at hb
  obtain ⟨h1, h2⟩ := hb
  refine ⟨?_, h1⟩
  have cd : match b with
    | .fn id f => CallD X (.builtin id) f
    | .ty T f => CallD X (.type T) f
    | .nfn id f => CallN X (.builtin id) f
    | .nty T f => CallN X (.type T) f := by
    simp only [blts, List.mem_cons, Prod.mk.injEq, List.not_mem_nil, or_false] at hm
    rcases hm with ⟨_, rfl⟩ | ⟨_, rfl⟩ | ⟨_, rfl⟩ | ⟨_, rfl⟩ | ⟨_, rfl⟩ | ⟨_, rfl⟩ | ⟨_, rfl⟩ | ⟨_, rfl⟩ | ⟨_, rfl⟩ | ⟨_, rfl⟩ | ⟨_, rfl⟩ | ⟨_, rfl⟩ | ⟨_, rfl⟩ | ⟨_, rfl⟩ | ⟨_, rfl⟩ | ⟨_, rfl⟩
    · exact cd_len
    · exact cd_isi
    · exact cd_all hc
    · exact cd_any hc
    · exact cd_tuple
    · exact cn_list
    · exact cn_sorted hc hu
    · exact cd_repr hg hu
    · exact cd_max hc
    · exact cd_min hc
    · exact cd_int
    · exact cd_bool
    · exact cd_abs
    · exact cd_sum hc
    · exact cn_dict hc
    · exact cd_str
  cases b with
  | fn id f => exact ⟨eq_of_beq h2, cd⟩
  | ty T f => exact ⟨eq_of_beq h2, cd⟩
  | nfn id f => exact ⟨eq_of_beq h2, cd⟩
  | nty T f => exact ⟨eq_of_beq h2, cd⟩
theorem btys : (bltTys.all fun p => plainName p.1 && bootBuiltins p.1 == some (.type p.2)) = true := by decide +kernel
theorem bltTys_ok {x : Str} {T : String} (h : bltTys.lookup x = some T) : bootBuiltins x = some (.type T) ∧ plainName x = true := by
  have hb := List.all_eq_true.mp btys _ (lookup_mem h)
  simp only [Bool.and_eq_true] at hb
  exact ⟨eq_of_beq hb.2, hb.1⟩
theorem names_in : (blts.all fun p => bltNames.contains p.1) = true ∧ (bltTys.all fun p => bltNames.contains p.1) = true := by decide +kernel
theorem mtabs_ok {X : Cx} (hu : X.A.units + 130 < cLine) : ∀ x t, mtabs.lookup x = some t → MTabOk X x t := by
  intro x t h
  have hm := lookup_mem h
  simp only [mtabs, List.mem_cons, Prod.mk.injEq, List.not_mem_nil, or_false] at hm
  have one : ∀ {T : String} {fn : Mfn} {id : String} {x : Str}, (T = "list" ∨ T = "str" ∨ T = "dict") → MRow X T x fn id → MTabOk X x [(T, fn)] := fun {T fn id x} hT m T' fn' h' => by
    rw [List.lookup_cons] at h'
    split at h'
    · rename_i e
      cases h'
      rw [eq_of_beq e]
      exact ⟨hT, id, m⟩
    · cases h'
  rcases hm with ⟨rfl, rfl⟩ | ⟨rfl, rfl⟩ | ⟨rfl, rfl⟩ | ⟨rfl, rfl⟩ | ⟨rfl, rfl⟩ | ⟨rfl, rfl⟩ | ⟨rfl, rfl⟩ | ⟨rfl, rfl⟩
  · exact one (.inl rfl) ⟨F.plainAttrs_list, F.slot_list_append, F.type_list_append, md_append⟩
  · exact one (.inl rfl) ⟨F.plainAttrs_list, F.slot_list_extend, F.type_list_extend, md_extend⟩
  · exact one (.inl rfl) ⟨F.plainAttrs_list, F.slot_list_pop, F.type_list_pop, md_lpop⟩
  · exact one (.inl rfl) ⟨F.plainAttrs_list, F.slot_list_insert, F.type_list_insert, md_insert⟩
  · exact one (.inl rfl) ⟨F.plainAttrs_list, F.slot_list_reverse, F.type_list_reverse, md_reverse⟩
  · exact one (.inr (.inl rfl)) ⟨F.plainAttrs_str, F.slot_str_join, F.type_str_join, md_join⟩
  · exact one (.inr (.inl rfl)) ⟨F.plainAttrs_str, F.slot_str_upper, F.type_str_upper, md_upper⟩
  · exact one (.inr (.inr rfl)) ⟨F.plainAttrs_dict, F.slot_dict_get, F.type_dict_get, md_get (by omega)⟩

/-! ### what is known beside the text -/
structure FnE where
  fn : Fn
  dd : List D := []
  lv : Nat
structure Gen where
  fns : List (Str × FnE)
  consts : List (Str × D)
structure Sx where
  N : List Str
  sc : Scope
  /-- the scope as it is written -/
  fc : Scope
  G : Gen
  lv : Nat
  thaw : List Str
structure FnFact (P : Program) (w : World) (K : PySem.W.Frag) (mg : Str → Option Value) (base : Heap) (x : Str) (e : FnE) : Prop where
  ex : ∃ (f : Addr) (fd : FuncData) (ps : List Str) (ds : List Value) (dvs : List V), mg x = some (.ref f) ∧ PySem.W.keepIn K (.ref f) = true ∧ FnD P w K mg base e.lv f fd ps e.fn ∧ Binds K fd ps ds ∧ Vals dvs ds ∧ ∀ ω H, Reps K mg ω H e.dd dvs
structure GOk (P : Program) (w : World) (K : PySem.W.Frag) (mg : Str → Option Value) (base : Heap) (G : Gen) (lv : Nat) : Prop where
  fns : ∀ x e, G.fns.lookup x = some e → e.lv ≤ lv ∧ FnFact P w K mg base x e
  consts : ∀ x d, G.consts.lookup x = some d → ∃ u v, mg x = some u ∧ RelV v u ∧ Flat d v
  blt : ∀ x ∈ bltNames, mg x = none
structure Good (X : Cx) (W : WX) (s : Sx) : Prop where
  hN : X.N = s.N
  nd : X.N.Nodup
  hsc : X.env.scope = s.sc
  calm : X.calm = true
  room : Room s.lv X.A
  guards : X.A.guards = some []
  tk : Takes X W
  cell : ∀ x, s.fc.names.lookup x = some .cell → X.fn x = true
  G : GOk X.prog X.w X.K X.mg X.base s.G s.lv
section
variable {X : Cx} {W : WX} {s : Sx}
theorem Good.units (g : Good X W s) : X.A.units + 130 < cLine := by have := g.room.un; omega
theorem Good.u1 (g : Good X W s) : X.A.units + 1 < cLine := by have := g.room.un; omega
end
def idx : List Str → Str → Option Nat
  | [], _ => none
  | y :: r, x => if y == x then some 0 else (idx r x).map (· + 1)
theorem idx_ok : ∀ {N : List Str} {x : Str} {i : Nat}, idx N x = some i → N[i]? = some x
  | [], _, _, h => by cases h
  | y :: r, x, i, h => by
    unfold idx at h
    split at h
    · rename_i e; cases h; rw [eq_of_beq e]; rfl
    · obtain ⟨j, h2, rfl⟩ := Option.map_eq_some_iff.mp h
      simpa using idx_ok h2
def isGl (s : Sx) (x : Str) : Bool := s.sc.names.lookup x == some .globalImplicit
theorem isGl_ok {X : Cx} {W : WX} {s : Sx} (g : Good X W s) {x : Str} (h : isGl s x = true) : Gl X x := by
  show X.env.scope.names.lookup x = _
  rw [g.hsc]; exact eq_of_beq h
def isVis (s : Sx) (x : Str) : Bool := s.sc.names.lookup x == some .local || s.sc.names.lookup x == some .cell || s.sc.names.lookup x == some .free
theorem isVis_ok {X : Cx} {W : WX} {s : Sx} (g : Good X W s) {x : Str} (h : isVis s x = true) : Vis X.env.scope x := by
  rw [g.hsc]
  simp only [isVis, Bool.or_eq_true] at h
  rcases h with (h | h) | h
  · exact .inl (eq_of_beq h)
  · exact .inr (.inl (eq_of_beq h))
  · exact .inr (.inr (eq_of_beq h))
def isLoc (s : Sx) (x : Str) : Bool := s.sc.names.lookup x == some .local || (s.sc.names.lookup x == some .cell && s.fc.names.lookup x == some .cell)
theorem isLoc_ok {X : Cx} {W : WX} {s : Sx} (g : Good X W s) {x : Str} (h : isLoc s x = true) : Loc X.env.scope x ∧ (X.fn x = true ∨ X.env.scope.names.lookup x = some .local) := by
  simp only [isLoc, Bool.or_eq_true, Bool.and_eq_true] at h
  rw [g.hsc]
  rcases h with h | ⟨h, h2⟩
  · exact ⟨.inl (eq_of_beq h), .inr (eq_of_beq h)⟩
  · exact ⟨.inr (eq_of_beq h), .inl (g.cell x (eq_of_beq h2))⟩

/-! ### the mirror's steps, over a way to go deeper -/
structure Rec where
  E : Sx → Expr → Option Ev
  T : Sx → Expr → Option EvB
  N : Sx → Expr → Option EvN
def plainIx : Expr → Bool
  | .Slice _ _ _ _ => false
  | _ => true
def noStar : Expr → Bool
  | .Starred _ _ => false
  | _ => true
def noSet : Expr → Bool
  | .Set _ _ _ => false
  | _ => true
def noComp : Expr → Bool
  | .ListComp _ _ _ _ => false
  | .SetComp _ _ _ _ => false
  | .DictComp _ _ _ _ _ => false
  | _ => true
/-- an attribute's base, not super() -/
def plainBase : Expr → Bool
  | .Call (.Name id _) [] [] _ => !(id == ("super" : Str))
  | _ => true
def argsOf (E : Sx → Expr → Option Ev) (s : Sx) : List Expr → Option EvL
  | [] => some aNil
  | e :: es => if noStar e = true then match E s e, argsOf E s es with
    | some f, some F => some (aCons f F)
    | _, _ => none
    else none
def andOf (E : Sx → Expr → Option Ev) (s : Sx) : List Expr → Option Ev
  | [] => none
  | [e] => E s e
  | e :: es => match E s e, andOf E s es with
    | some f, some g => some (eAnd f g)
    | _, _ => none
def orOf (E : Sx → Expr → Option Ev) (s : Sx) : List Expr → Option Ev
  | [] => none
  | [e] => E s e
  | e :: es => match E s e, orOf E s es with
    | some f, some g => some (eOr f g)
    | _, _ => none
def bandOf (T : Sx → Expr → Option EvB) (s : Sx) : List Expr → Option EvB
  | [] => none
  | [e] => T s e
  | e :: es => match T s e, bandOf T s es with
    | some f, some g => some (bAnd f g)
    | _, _ => none
def borOf (T : Sx → Expr → Option EvB) (s : Sx) : List Expr → Option EvB
  | [] => none
  | [e] => T s e
  | e :: es => match T s e, borOf T s es with
    | some f, some g => some (bOr f g)
    | _, _ => none
def partOf (E : Sx → Expr → Option Ev) (s : Sx) : Option Expr → Option EvO
  | none => some oNone
  | some e => (E s e).map oSome
def nameOf (s : Sx) (x : Str) : Option Ev := if plainName x = true then
    if isVis s x = true then (idx s.N x).map eVar
    else if isGl s x = true then (match s.G.consts.lookup x with
      | some d => some (eC d)
      | none => (bltTys.lookup x).map fun T => eC (.ty T))
    else none
  else none
def constOf : Const → Option D
  | .none => some .non
  | .bool b => some (.bl b)
  | .int i => some (.int i)
  | .str x => some (.str x)
  | _ => none
mutual
def tgOf (s : Sx) : Expr → Option Tg
  | .Name x _ => if isLoc s x = true then (idx s.N x).map .nm else none
  | .Tuple es _ _ => (tgsOf s es).map .tp
  | _ => none
def tgsOf (s : Sx) : List Expr → Option (List Tg)
  | [] => some []
  | e :: es => match tgOf s e, tgsOf s es with
    | some t, some ts => some (t :: ts)
    | _, _ => none
end
def isTup : Expr → Bool
  | .Tuple _ _ _ => true
  | _ => false
def iterOf (E : Sx → Expr → Option Ev) (s : Sx) (tg : Expr) : Expr → Option EvS
  | .Call (.Name x p) [a] [] pos => if (x == ("range" : Str)) = true then (if isGl s "range" = true ∧ noStar a = true then (E s a).map iRange1 else none)
    else if (x == ("enumerate" : Str)) = true then (if isGl s "enumerate" = true ∧ noStar a = true ∧ isTup tg = true then (E s a).map iEnum1 else none)
    else (E s (.Call (.Name x p) [a] [] pos)).map iOf
  | .Call (.Name x p) [a, b] [] pos => if (x == ("range" : Str)) = true then (if isGl s "range" = true ∧ noStar a = true ∧ noStar b = true then match E s a, E s b with
      | some f, some g => some (iRange2 f g)
      | _, _ => none
      else none)
    else if (x == ("zip" : Str)) = true then (if isGl s "zip" = true ∧ noStar a = true ∧ noStar b = true ∧ isTup tg = true then match E s a, E s b with
      | some f, some g => some (iZip2 f g)
      | _, _ => none
      else none)
    else (E s (.Call (.Name x p) [a, b] [] pos)).map iOf
  | .Call (.Name x p) [a, b, c] [] pos => if (x == ("range" : Str)) = true then (if isGl s "range" = true ∧ noStar a = true ∧ noStar b = true ∧ noStar c = true then match E s a, E s b, E s c with
      | some f, some g, some h => some (iRange3 f g h)
      | _, _, _ => none
      else none)
    else (E s (.Call (.Name x p) [a, b, c] [] pos)).map iOf
  | e => (E s e).map iOf
def ownOf (N : List Str) (scope : Scope) : List (Str × Nat) := scope.names.filterMap fun y => match y.2 with
  | .local => (idx N y.1).map fun i => (y.1, i)
  | .cell => (idx N y.1).map fun i => (y.1, i)
  | _ => none
def Sx.blk (s : Sx) (scope : Scope) : Sx := { s with sc := relS scope s.sc, fc := scope }
def condsOf (T : Sx → Expr → Option EvB) (s : Sx) : List Expr → Option EvB
  | [] => some bYes
  | [c] => T s c
  | _ => none
def lcOf (r : Rec) (s : Sx) (elt tg iter : Expr) (ifs : List Expr) (scope : Scope) : Option EvL :=
  if blkC s.N s.sc scope (ownOf s.N scope) = true ∧ noSet iter = true then
    match tgOf (s.blk scope) tg, iterOf r.E s tg iter, condsOf r.T (s.blk scope) ifs, r.E (s.blk scope) elt with
    | some T, some it, some c, some f => if (slots T).all (fun i => ((ownOf s.N scope).map (·.2)).contains i) = true then some (lLC T it c f ((ownOf s.N scope).map (·.2))) else none
    | _, _, _, _ => none
  else none
def dcOf (r : Rec) (s : Sx) (kx vx tg iter : Expr) (ifs : List Expr) (scope : Scope) : Option EvN :=
  if blkC s.N s.sc scope (ownOf s.N scope) = true ∧ noSet iter = true then
    match tgOf (s.blk scope) tg, iterOf r.E s tg iter, condsOf r.T (s.blk scope) ifs, r.E (s.blk scope) kx, r.E (s.blk scope) vx with
    | some T, some it, some c, some f, some g => if (slots T).all (fun i => ((ownOf s.N scope).map (·.2)).contains i) = true then some (nDC T it c f g ((ownOf s.N scope).map (·.2))) else none
    | _, _, _, _, _ => none
  else none
def newCall (r : Rec) (s : Sx) (x : Str) (e : Expr) (es : List Expr) : Option EvN := if isGl s x = true then match blts.lookup x, argsOf r.E s (e :: es) with
    | some (.nfn _ f), some F => some (nBf f F)
    | some (.nty _ f), some F => some (nBf f F)
    | _, _ => none
    else none
/-- a new object -/
def newOf (r : Rec) (s : Sx) : Expr → Option EvN
  | .List es _ => (argsOf r.E s es).map fun F => nLst (lLst F)
  | .ListComp elt [⟨tg, iter, ifs, 0⟩] scope _ => (lcOf r s elt tg iter ifs scope).map nLst
  | .Dict [] [] _ => some fun _ S => .ok (.dct false []) S
  | .DictComp kx vx [⟨tg, iter, ifs, 0⟩] scope _ => dcOf r s kx vx tg iter ifs scope
  | .BinOp (.List es _) .Mult b _ => match argsOf r.E s es, r.E s b with
    | some F, some g => some (nRep (lLst F) g)
    | _, _ => none
  | .Dict [some k] [v] _ => match r.E s k, r.E s v with
    | some f, some g => some (nDisp1 f g)
    | _, _ => none
  | .Call (.Name x _) [.Call (.Name y p2) [a] [] q] [] _ => if (x == ("list" : Str) && y == ("range" : Str)) = true then (if isGl s "list" = true ∧ isGl s "range" = true ∧ noStar a = true then (r.E s a).map nRg else none)
    else if (x == ("sorted" : Str) && y == ("set" : Str)) = true then (if isGl s "sorted" = true ∧ isGl s "set" = true ∧ noStar a = true then (r.E s a).map nSrtSet else none)
    else newCall r s x (.Call (.Name y p2) [a] [] q) []
  | .Call (.Name x _) (e :: es) [] _ => newCall r s x e es
  | _ => none
def callOf (r : Rec) (s : Sx) (x : Str) (es : List Expr) : Option Ev := if isGl s x = true ∧ plainName x = true then match argsOf r.E s es with
    | none => none
    | some F => match s.G.fns.lookup x with
      | some e => some (eCallD e.fn e.dd F)
      | none => match blts.lookup x with
        | some (.fn _ f) => some (eBf f F)
        | some (.ty _ f) => some (eBf f F)
        | _ => none
  else none
def isDisp : Expr → Bool
  | .List _ _ => true
  | _ => false
/-- a method's argument: a display is held where the def says so -/
def argE (r : Rec) (s : Sx) (e : Expr) : Option Ev := if (s.thaw.contains ("*" : Str) && isDisp e) = true then (r.N s e).map eThaw else r.E s e
def stepE (r : Rec) (s : Sx) : Expr → Option Ev
  | .Name x _ => nameOf s x
  | .Constant c _ _ => (constOf c).map eC
  | .BinOp a op b _ => match r.E s a, r.E s b with
    | some f, some g => some (eBin op f g)
    | _, _ => none
  | .UnaryOp .USub a _ => (r.E s a).map (eUn .USub)
  | .UnaryOp .Not a _ => (r.E s a).map eNot
  | .Compare a [op] [b] _ => if behindInMarks op b = false then match r.E s a, r.E s b with
    | some f, some g => some (eCmp op f g)
    | _, _ => none
    else none
  | .Compare a [o1, o2] [b, c] _ => if lastMarks [o1, o2] [b, c] = false then match r.E s a, r.E s b, r.E s c with
    | some f, some g, some h => some (eChain o1 o2 f g h)
    | _, _, _ => none
    else none
  | .BoolOp .And es _ => andOf r.E s es
  | .BoolOp .Or es _ => orOf r.E s es
  | .IfExp c a b _ => match r.T s c, r.E s a, r.E s b with
    | some A, some f, some g => some (eIf A f g)
    | _, _, _ => none
  | .Tuple es _ _ => (argsOf r.E s es).map eTup
  | .Subscript a (.Slice lo hi none _) _ => match r.E s a, partOf r.E s lo, partOf r.E s hi with
    | some f, some l, some h => some (eSl f l h)
    | _, _, _ => none
  | .Subscript a b _ => if plainIx b = true then match r.E s a, r.E s b with
    | some f, some g => some (eIx f g)
    | _, _ => none
    else none
  | .Call (.Name x p) (e :: es) [] pos => match callOf r s x (e :: es) with
    | some f => some f
    | none => (r.N s (.Call (.Name x p) (e :: es) [] pos)).map eFixN
  | .Call (.Attribute o name apos) es [] cpos => if plainBase o = true ∧ (apos.endLine == cpos.line) = true ∧ es.length < 20 then match mtabs.lookup name, r.E s o, argsOf (argE r) s es with
    | some tab, some f, some F => some (eMeth tab f F)
    | _, _, _ => none
    else none
  | e => (r.N s e).map eFixN
def stepT (r : Rec) (s : Sx) : Expr → Option EvB
  | .UnaryOp .Not a _ => (r.T s a).map bNot
  | .BoolOp .And es _ => bandOf r.T s es
  | .BoolOp .Or es _ => borOf r.T s es
  | .IfExp _ _ _ _ => none
  | .Compare a [op] [b] _ => if behindInMarks op b = false then match r.E s a, r.E s b with
    | some f, some g => some (bCmp op f g)
    | _, _ => none
    else none
  | .Compare a [o1, o2] [b, c] _ => if lastMarks [o1, o2] [b, c] = false then match r.E s a, r.E s b, r.E s c with
    | some f, some g, some h => some (bChain o1 o2 f g h)
    | _, _, _ => none
    else none
  | .Compare _ _ _ _ => none
  | e => (r.E s e).map bVal
def dens : Nat → Rec
  | 0 => ⟨fun _ _ => none, fun _ _ => none, fun _ _ => none⟩
  | n + 1 => ⟨stepE (dens n), stepT (dens n), newOf (dens n)⟩

/-! ### statements -/
structure RecS where
  S : Sx → Stmt → Option St'
def swapB (s : Sx) (e : Expr) (x : Str) (p : Pos) : Bool := match e with
  | .ListComp _ _ sc q => s.sc.names.lookup x == some .local && p.line == q.line && !(sc.names.any fun (n, k) => n == x && (k == .local || k == .cell))
  | .SetComp _ _ sc q => s.sc.names.lookup x == some .local && p.line == q.line && !(sc.names.any fun (n, k) => n == x && (k == .local || k == .cell))
  | .DictComp _ _ _ sc q => s.sc.names.lookup x == some .local && p.line == q.line && !(sc.names.any fun (n, k) => n == x && (k == .local || k == .cell))
  | _ => false
/-- the value for a name: laid, or held in the store -/
def valOf (r : Rec) (s : Sx) (x : Str) (e : Expr) : Option Ev := if s.thaw.contains x = true then (r.N s e).map eThaw else r.E s e
def setOf (r : Rec) (s : Sx) (x : Str) (p : Pos) (e : Expr) : Option St' := if isLoc s x = true then match idx s.N x with
    | none => none
    | some i => if swapB s e x p = true then (match e with
        | .ListComp elt [⟨tg, iter, ifs, 0⟩] scope _ => (lcOf r s elt tg iter ifs scope).map fun F => sSet (.nm i) ((if s.thaw.contains x = true then eThaw else eFixN) (nLst F))
        | _ => none)
      else (valOf r s x e).map (sSet (.nm i))
  else none
def isLocal (s : Sx) (x : Str) : Bool := s.sc.names.lookup x == some .local
/-- targets at which more than names stand -/
abbrev Gf := D → Fr → Sto → Fl
def gfT (T : Tg) : Gf := fun d ρ S => orBad (setT T d ρ) fun ρ1 => .nx ρ1 S
def gfIx (fo fi : Ev) : Gf := fun d ρ S => (fo ρ S).thenS ρ fun o S1 => (fi ρ S1).thenS ρ fun i S2 => orBadS (putS o i d S2) fun S3 => .nx ρ S3
def gfs : List Gf → List D → Fr → Sto → Fl
  | [], [], ρ, S => .nx ρ S
  | g :: gs, x :: xs, ρ, S => match g x ρ S with
    | .nx ρ1 S1 => gfs gs xs ρ1 S1
    | r => r
  | _, _, _, _ => .bad
def gfTup (gs : List Gf) : Gf := fun d ρ S => match d with
  | .tup xs => if xs.length = gs.length then gfs gs xs ρ S else .bad
  | _ => .bad
def sAsg (g : Gf) (f : Ev) : St' := fun ρ S => (f ρ S).thenS ρ fun d S1 => match g d ρ S1 with
  | .nx ρ1 S2 => .nx ρ1 S2
  | .ex x ρ1 S2 => .ex x ρ1 S2
  | _ => .bad
mutual
def gfOf (E : Sx → Expr → Option Ev) (s : Sx) : Expr → Option Gf
  | .Name x _ => if isLoc s x = true then (idx s.N x).map fun i => gfT (.nm i) else none
  | .Subscript o i _ => if plainIx i = true then match E s o, E s i with
    | some f, some g => some (gfIx f g)
    | _, _ => none
    else none
  | .Tuple es _ _ => (gfsOf E s es).map gfTup
  | _ => none
def gfsOf (E : Sx → Expr → Option Ev) (s : Sx) : List Expr → Option (List Gf)
  | [] => some []
  | e :: es => match gfOf E s e, gfsOf E s es with
    | some t, some ts => some (t :: ts)
    | _, _ => none
end
/-- what swappedStores finds, in the scope of a def: none, where it does not tell -/
def swapped (sc : Scope) (targets : List Expr) (value : Expr) : Option (Option (List Str)) :=
  match (match targets, value with
    | [.Tuple ts _ _], .Tuple vs _ _ => some (ts, vs)
    | [.List ts _], .Tuple vs _ _ => some (ts, vs)
    | _, _ => none) with
  | none => some none
  | some (ts, vs) =>
    if (!(ts.length == 2 || ts.length == 3) || vs.length != ts.length) = true then some none else
    if (vs.any fun | .Starred .. => true | _ => false) = true then some none else
    let line := (ts.head?.map (·.pos.line)).getD 0
    let names := ts.filterMap fun
      | .Name id pos => if (sc.names.lookup id == some .local && pos.line == line) = true then some id else none
      | _ => none
    if (names.length != ts.length || names.eraseDups.length != names.length) = true then some none else
    if vs.all (foldedForSure 8) = true then some none else
    if vs.all (constantsAlone 8) = true then none else some (some names)
def augD (op : Operator) (x y : D) (S : Sto) : Res D := match op, x, y with
  | .Add, .int i, .int j => .ok (.int (i + j)) S
  | .Sub, .int i, .int j => .ok (.int (i - j)) S
  | .Mult, .int i, .int j => if mulFits i j = true then .ok (.int (i * j)) S else .bad
  | .Add, .str a, .str b => if lenFits (a.length + b.length) = true then .ok (.str (a ++ b)) S else .bad
  | _, _, _ => .bad
def sAug (i : Nat) (op : Operator) (f : Ev) : St' := fun ρ S => match ρ[i]? with
  | some (some x) => (f ρ S).thenS ρ fun y S1 => match augD op x y S1 with
    | .ok z S2 => .nx (ρ.set i (some z)) S2
    | _ => .bad
  | _ => .bad
def isAug : Operator → Bool
  | .Add => true
  | .Sub => true
  | _ => false
def blockOf (F : Stmt → Option St') : List Stmt → Option St'
  | [] => some sNext
  | [st] => F st
  | st :: r => match F st, blockOf F r with
    | some a, some b => some (sSeq a b)
    | _, _ => none
/-- the parts of a display that is taken apart into names: laid, or held -/
def partsOf (r : Rec) (s : Sx) : List Expr → List Expr → Option EvL
  | [], [] => some aNil
  | t :: ts, e :: es => if noStar e = true then match (match t with
      | .Name x _ => valOf r s x e
      | _ => r.E s e), partsOf r s ts es with
    | some f, some F => some (aCons f F)
    | _, _ => none
    else none
  | _, _ => none
/-- for k, v in d.items(), d a name -/
def itemsOf' (s : Sx) (tg iter : Expr) : Option Nat := match tg, iter with
  | .Tuple _ _ _, .Call (.Attribute (.Name x _) name apos) [] [] cpos => if (name == ("items" : Str)) = true ∧ isVis s x = true ∧ plainName x = true ∧ (apos.endLine == cpos.line) = true then idx s.N x else none
  | _, _ => none
def asgOf (r : Rec) (s : Sx) (tg : Expr) (e : Expr) : Option St' :=
  match tg, e, swapped s.sc [tg] e with
  | .Tuple [.Name x _, .Name y _] _ _, .Tuple [a, b] _ _, some (some [x', y']) => if (x == x') = true ∧ (y == y') = true ∧ isLocal s x = true ∧ isLocal s y = true then
      match idx s.N x, idx s.N y, partsOf r s [.Name x ⟨0, 0, 0, 0⟩, .Name y ⟨0, 0, 0, 0⟩] [a, b] with
      | some i, some j, some F => if i = j then none else some (sPar i j F)
      | _, _, _ => none
    else none
  | .Tuple [.Name x _, .Name y _, .Name z _] _ _, .Tuple [a, b, c] _ _, some (some [x', y', z']) => if (x == x') = true ∧ (y == y') = true ∧ (z == z') = true ∧ isLocal s x = true ∧ isLocal s y = true ∧ isLocal s z = true then
      match idx s.N x, idx s.N y, idx s.N z, partsOf r s [.Name x ⟨0, 0, 0, 0⟩, .Name y ⟨0, 0, 0, 0⟩, .Name z ⟨0, 0, 0, 0⟩] [a, b, c] with
      | some i, some j, some l, some F => if i = j ∨ i = l ∨ j = l then none else some (sPar3 i j l F)
      | _, _, _, _ => none
    else none
  | .Tuple ts _ _, .Tuple es _ _, some none => match gfOf r.E s tg, partsOf r s ts es with
    | some g, some F => some (sAsg g (eTup F))
    | _, _ => none
  | _, _, some none => if noComp e = true ∧ noStar tg = true then match gfOf r.E s tg, r.E s e with
    | some g, some f => some (sAsg g f)
    | _, _ => none
    else none
  | _, _, _ => none
def stepS (r : Rec) (q : RecS) (s : Sx) : Stmt → Option St'
  | .Pass _ => some sNext
  | .Break _ => some sBrk
  | .Continue _ => some sCont
  | .Return none _ => some sRetN
  | .Return (some e) _ => (valOf r s "return" e).map sRet
  | .Raise _ _ _ => some sBad
  | .Expr (.Constant (.str _) _ _) _ => some sNext
  | .Expr e _ => if noComp e = true then (r.E s e).map sExpr else none
  | .If c a b _ => match r.T s c, blockOf (q.S s) a, blockOf (q.S s) b with
    | some A, some t, some u => some (sIf A t u)
    | _, _, _ => none
  | .For tg iter body [] _ => if noSet iter = true then match itemsOf' s tg iter with
    | some i => match tgOf s tg, blockOf (q.S s) body with
      | some T, some b => some (sForI i T b)
      | _, _ => none
    | none => match tgOf s tg, iterOf r.E s tg iter, blockOf (q.S s) body with
      | some T, some it, some b => some (sFor T it b)
      | _, _, _ => none
    else none
  | .While c body [] _ => match r.T s c, blockOf (q.S s) body with
    | some A, some b => some (sWhile A b)
    | _, _ => none
  | .Assign [.Name x p] e _ => setOf r s x p e
  | .Assign [.Subscript o i _] e _ => if noComp e = true ∧ plainIx i = true then match r.E s o, r.E s i, r.E s e with
    | some fo, some fi, some fv => some (sPut fo fi fv)
    | _, _, _ => none
    else none
  | .Assign [tg] e _ => asgOf r s tg e
  | .AugAssign (.Name x _) op e _ => if isLoc s x = true ∧ isAug op = true then match idx s.N x, r.E s e with
    | some i, some f => some (sAug i op f)
    | _, _ => none
    else none
  | _ => none
def denS : Nat → RecS
  | 0 => ⟨fun _ _ => none⟩
  | n + 1 => ⟨stepS (dens 60) (denS n)⟩
/-- a def's body -/
def denB (s : Sx) (body : List Stmt) : Option St' := blockOf ((denS 20).S s) body
end PL
end
section
set_option Elab.async false
set_option linter.all false
set_option maxRecDepth 100000
set_option maxHeartbeats 4000000
set_option autoImplicit false
/-! Part p: the mirror is right: expressions. -/
namespace PL
open PySem L2 PySem.Spec PyProof.Rows

structure ROk (r : Rec) : Prop where
  E : ∀ {X : Cx} {W : WX} {s : Sx}, Good X W s → ∀ {e f}, r.E s e = some f → DE X W e f
  T : ∀ {X : Cx} {W : WX} {s : Sx}, Good X W s → ∀ {e f}, r.T s e = some f → DT X W e f
  N : ∀ {X : Cx} {W : WX} {s : Sx}, Good X W s → ∀ {e f}, r.N s e = some f → DN X W e f
theorem star_head {env : Env} {e : Expr} {es : List Expr} (h : noStar e = true) : starEach (e :: es) env = (false, eval e env) :: starEach es env := by
  cases e <;> first | rfl | (simp [noStar] at h)
theorem starL {E : Sx → Expr → Option Ev} {s : Sx} {env : Env} {pos : Pos} : ∀ {es : List Expr} {F : EvL}, argsOf E s es = some F → (backTo pos (starEach es env)).any (·.1) = false
  | [], _, _ => rfl
  | e :: es, F, h => by
    unfold argsOf at h
    split at h
    · rename_i hn
      split at h
      · rename_i f G h1 h2
        rw [star_head hn]
        show (false || (backTo pos (starEach es env)).any (·.1)) = false
        rw [starL h2]; rfl
      · cases h
    · cases h
theorem star_all {E : Sx → Expr → Option Ev} {s : Sx} {env : Env} {pos : Pos} : ∀ {es : List Expr} {F : EvL}, argsOf E s es = some F → (backTo pos (starEach es env)).all (fun x => !x.1) = true
  | [], _, _ => rfl
  | e :: es, F, h => by
    unfold argsOf at h
    split at h
    · rename_i hn
      split at h
      · rename_i f G h1 h2
        rw [star_head hn]
        show (!false && (backTo pos (starEach es env)).all (fun x => !x.1)) = true
        rw [star_all h2]; rfl
      · cases h
    · cases h
section
variable {X : Cx} {W : WX} {s : Sx} {r : Rec}
theorem argsG_ok {Eo : Sx → Expr → Option Ev} (E : ∀ {e f}, Eo s e = some f → DE X W e f) : ∀ {es : List Expr} {F : EvL}, argsOf Eo s es = some F → DA X W es F
  | [], F, h => by cases h; exact da_nil
  | e :: es, F, h => by
    unfold argsOf at h
    split at h
    · rename_i hn
      split at h
      · rename_i f G h1 h2
        cases h
        exact da_cons (E h1) (argsG_ok E h2) (star_head hn)
      · cases h
    · cases h
theorem args_ok (E : ∀ {e f}, r.E s e = some f → DE X W e f) {es : List Expr} {F : EvL} (h : argsOf r.E s es = some F) : DA X W es F := argsG_ok E h
theorem argE_ok (R : ROk r) (g : Good X W s) {e : Expr} {f : Ev} (h : argE r s e = some f) : DE X W e f := by
  unfold argE at h
  split at h
  · obtain ⟨F, h1, rfl⟩ := Option.map_eq_some_iff.mp h
    exact de_thaw (R.N g h1)
  · exact R.E g h
theorem args_head {Eo : Sx → Expr → Option Ev} {e : Expr} {es : List Expr} {F : EvL} {env : Env} {pos : Pos} (h : argsOf Eo s (e :: es) = some F) : starEach (e :: es) env = (false, eval e env) :: starEach es env ∧ (backTo pos (starEach es env)).any (·.1) = false := by
  unfold argsOf at h
  split at h
  · rename_i hn
    split at h
    · rename_i f G h1 h2
      exact ⟨star_head hn, starL h2⟩
    · cases h
  · cases h
theorem and_ok (E : ∀ {e f}, r.E s e = some f → DE X W e f) {pos : Pos} : ∀ {es : List Expr} {f : Ev}, andOf r.E s es = some f → DE X W (.BoolOp .And es pos) f
  | [], f, h => by cases h
  | [e], f, h => de_one (E h)
  | e :: a :: es, f, h => by
    rw [andOf] at h
    split at h
    · rename_i f1 g1 h1 h2
      cases h
      exact de_and (E h1) (and_ok E h2)
    · cases h
    · simp
theorem or_ok (E : ∀ {e f}, r.E s e = some f → DE X W e f) {pos : Pos} : ∀ {es : List Expr} {f : Ev}, orOf r.E s es = some f → DE X W (.BoolOp .Or es pos) f
  | [], f, h => by cases h
  | [e], f, h => de_one (E h)
  | e :: a :: es, f, h => by
    rw [orOf] at h
    split at h
    · rename_i f1 g1 h1 h2
      cases h
      exact de_or (E h1) (or_ok E h2)
    · cases h
    · simp
theorem band_ok (T : ∀ {e f}, r.T s e = some f → DT X W e f) {pos : Pos} : ∀ {es : List Expr} {f : EvB}, bandOf r.T s es = some f → DW X W (.BoolOp .And es pos) f
  | [], f, h => by cases h
  | [e], f, h => dw_and1 (T h)
  | e :: a :: es, f, h => by
    rw [bandOf] at h
    split at h
    · rename_i f1 g1 h1 h2
      cases h
      exact dw_and (T h1) (band_ok T h2)
    · cases h
    · simp
theorem bor_ok (T : ∀ {e f}, r.T s e = some f → DT X W e f) {pos : Pos} : ∀ {es : List Expr} {f : EvB}, borOf r.T s es = some f → DW X W (.BoolOp .Or es pos) f
  | [], f, h => by cases h
  | [e], f, h => dw_or1 (T h)
  | e :: a :: es, f, h => by
    rw [borOf] at h
    split at h
    · rename_i f1 g1 h1 h2
      cases h
      exact dw_or (T h1) (bor_ok T h2)
    · cases h
    · simp
theorem part_ok (E : ∀ {e f}, r.E s e = some f → DE X W e f) {o : Option Expr} {f : EvO} (h : partOf r.E s o = some f) : DO X W o f := by
  cases o with
  | none => cases h; exact do_none
  | some e =>
    obtain ⟨g, h1, rfl⟩ := Option.map_eq_some_iff.mp h
    exact do_some (E h1)
theorem name_ok (g : Good X W s) {x : Str} {p : Pos} {f : Ev} (h : nameOf s x = some f) : DE X W (.Name x p) f := by
  unfold nameOf at h
  split at h
  · rename_i hp
    obtain ⟨p1, p2, p3⟩ := plainName_ok hp
    split at h
    · rename_i hv
      obtain ⟨i, hi, rfl⟩ := Option.map_eq_some_iff.mp h
      exact de_var (by rw [g.hN]; exact idx_ok hi) (isVis_ok g hv) p1 p2
    · split at h
      · rename_i hg
        split at h
        · rename_i d hd
          cases h
          obtain ⟨u, v, h1, h2, h3⟩ := g.G.consts _ _ hd
          exact de_glob (isGl_ok g hg) h1 h2 h3 p1
        · obtain ⟨T, hT, rfl⟩ := Option.map_eq_some_iff.mp h
          obtain ⟨b1, _⟩ := bltTys_ok hT
          have hm : X.mg x = none := g.G.blt x (by
            have := List.all_eq_true.mp names_in.2 _ (lookup_mem hT)
            simpa using this)
          exact de_const (pe_bltn (isGl_ok g hg) hm b1 (v := V.ty T) rfl p3 p1) fun ω H => .ty T
      · cases h
  · cases h
theorem const_ok {c : Const} {d : D} {k : Nat} {p : Pos} (h : constOf c = some d) : DE X W (.Constant c k p) (eC d) := by
  cases c <;> simp [constOf] at h <;> subst h
  · exact de_non
  · exact de_bl
  · exact de_int
  · exact de_str
mutual
theorem tg_ok (g : Good X W s) : ∀ {e : Expr} {T : Tg}, tgOf s e = some T → DG X e T
  | .Name x p, T, h => by
    simp only [tgOf] at h
    split at h
    · rename_i hl
      obtain ⟨i, hi, rfl⟩ := Option.map_eq_some_iff.mp h
      obtain ⟨l1, l2⟩ := isLoc_ok g hl
      exact dg_name g.nd (by rw [g.hN]; exact idx_ok hi) l1 l2
    · cases h
  | .Tuple es k p, T, h => by
    simp only [tgOf] at h
    obtain ⟨ts, h1, rfl⟩ := Option.map_eq_some_iff.mp h
    obtain ⟨a, b, c⟩ := tgs_ok g h1
    exact dg_tup g.calm a b rfl c
  | .BoolOp .., T, h => by simp [tgOf] at h
  | .NamedExpr .., T, h => by simp [tgOf] at h
  | .BinOp .., T, h => by simp [tgOf] at h
  | .UnaryOp .., T, h => by simp [tgOf] at h
  | .Lambda .., T, h => by simp [tgOf] at h
  | .IfExp .., T, h => by simp [tgOf] at h
  | .Dict .., T, h => by simp [tgOf] at h
  | .Set .., T, h => by simp [tgOf] at h
  | .ListComp .., T, h => by simp [tgOf] at h
  | .SetComp .., T, h => by simp [tgOf] at h
  | .DictComp .., T, h => by simp [tgOf] at h
  | .GeneratorExp .., T, h => by simp [tgOf] at h
  | .Await .., T, h => by simp [tgOf] at h
  | .Yield .., T, h => by simp [tgOf] at h
  | .YieldFrom .., T, h => by simp [tgOf] at h
  | .Compare .., T, h => by simp [tgOf] at h
  | .Call .., T, h => by simp [tgOf] at h
  | .FormattedValue .., T, h => by simp [tgOf] at h
  | .JoinedStr .., T, h => by simp [tgOf] at h
  | .Constant .., T, h => by simp [tgOf] at h
  | .Attribute .., T, h => by simp [tgOf] at h
  | .Subscript .., T, h => by simp [tgOf] at h
  | .Starred .., T, h => by simp [tgOf] at h
  | .List .., T, h => by simp [tgOf] at h
  | .Slice .., T, h => by simp [tgOf] at h
theorem tgs_ok (g : Good X W s) : ∀ {es : List Expr} {Ts : List Tg}, tgsOf s es = some Ts → DGs X es Ts ∧ (assignEach es X.env).length = Ts.length ∧ (assignEach es X.env).findIdx? (·.1) = none
  | [], Ts, h => by
    simp only [tgsOf, Option.some.injEq] at h
    subst h
    exact ⟨dgs_nil, rfl, rfl⟩
  | e :: es, Ts, h => by
    simp only [tgsOf] at h
    split at h
    · rename_i t ts h1 h2
      cases h
      obtain ⟨a, b, c⟩ := tgs_ok g h2
      have hd : assignEach (e :: es) X.env = (false, assign e X.env) :: assignEach es X.env := by
        cases e <;> first | rfl | (simp [tgOf] at h1)
      refine ⟨dgs_cons (tg_ok g h1) a (by rw [hd]; rfl), by rw [hd]; simp [b], ?_⟩
      rw [hd, List.findIdx?_cons, c]
      rfl
    · cases h
end
theorem tup_of {tg : Expr} (h : isTup tg = true) : ∃ es k p, tg = .Tuple es k p := by
  cases tg <;> first | exact ⟨_, _, _, rfl⟩ | cases h
theorem mg_none (g : Good X W s) {x : Str} (h : x ∈ bltNames) : X.mg x = none := g.G.blt x h
theorem star1 {env : Env} {a : Expr} (h : noStar a = true) : starEach [a] env = [(false, eval a env)] := star_head h
theorem iter_ok (g : Good X W s) (E : ∀ {e f}, r.E s e = some f → DE X W e f) {tg e : Expr} {f : EvS} (h : iterOf r.E s tg e = some f) : DI X W tg e f := by
  unfold iterOf at h
  split at h
  · rename_i x p a pos
    split at h
    · rename_i hx
      rw [eq_of_beq hx]
      split at h
      · rename_i hc
        obtain ⟨f1, h1, rfl⟩ := Option.map_eq_some_iff.mp h
        exact di_range1 (isGl_ok g hc.1) (mg_none g (by decide +kernel)) (E h1) (star1 hc.2)
      · cases h
    · split at h
      · rename_i hx
        rw [eq_of_beq hx]
        split at h
        · rename_i hc
          obtain ⟨f1, h1, rfl⟩ := Option.map_eq_some_iff.mp h
          obtain ⟨es, k, q, rfl⟩ := tup_of hc.2.2
          exact di_enum (isGl_ok g hc.1) (mg_none g (by decide +kernel)) (E h1) (star1 hc.2.1)
        · cases h
      · obtain ⟨f1, h1, rfl⟩ := Option.map_eq_some_iff.mp h
        exact di_of (E h1)
  · rename_i x p a b pos
    split at h
    · rename_i hx
      rw [eq_of_beq hx]
      split at h
      · rename_i hc
        split at h
        · rename_i f1 g1 h1 h2
          cases h
          exact di_range2 (isGl_ok g hc.1) (mg_none g (by decide +kernel)) (E h1) (E h2) (star_head hc.2.1) (star1 hc.2.2)
        · cases h
      · cases h
    · split at h
      · rename_i hx
        rw [eq_of_beq hx]
        split at h
        · rename_i hc
          split at h
          · rename_i f1 g1 h1 h2
            cases h
            obtain ⟨es, k, q, rfl⟩ := tup_of hc.2.2.2
            exact di_zip (isGl_ok g hc.1) (mg_none g (by decide +kernel)) (E h1) (E h2) (star_head hc.2.1) (star1 hc.2.2.1) (by rw [star1 hc.2.2.1]; rfl)
          · cases h
        · cases h
      · obtain ⟨f1, h1, rfl⟩ := Option.map_eq_some_iff.mp h
        exact di_of (E h1)
  · split at h
    · rename_i hx
      rw [eq_of_beq hx]
      split at h
      · rename_i hc
        split at h
        · rename_i f1 g1 k1 h1 h2 h3
          cases h
          exact di_range3 (isGl_ok g hc.1) (mg_none g (by decide +kernel)) (E h1) (E h2) (E h3) (star_head hc.2.1) (star_head hc.2.2.1) (star1 hc.2.2.2)
        · cases h
      · cases h
    · obtain ⟨f1, h1, rfl⟩ := Option.map_eq_some_iff.mp h
      exact di_of (E h1)
  · obtain ⟨f1, h1, rfl⟩ := Option.map_eq_some_iff.mp h
    exact di_of (E h1)
theorem Good.blk (g : Good X W s) {scope : Scope} (sh : Shared) (H : Hp) (C : Addr) (cl : List (Str × Addr)) (fp : List Addr) : Good (X.blk sh H scope (compEnvC scope cl C X.env) fp) W0 (s.blk scope) where
  hN := g.hN
  nd := g.nd
  hsc := by
    show relS scope X.env.scope = relS scope s.sc
    rw [g.hsc]
  calm := g.calm
  room := g.room
  guards := g.guards
  tk := takes0
  cell := fun x h => by
    show (scope.names.lookup x == some .cell) = true
    have h : scope.names.lookup x = some .cell := h
    rw [h]; rfl
  G := g.G
theorem conds_ok {X' : Cx} {s' : Sx} (T : ∀ {e f}, r.T s' e = some f → DT X' W e f) {ifs : List Expr} {c : EvB} (h : condsOf r.T s' ifs = some c) : DTs X' W ifs c := by
  unfold condsOf at h
  split at h
  · cases h; exact dts_nil
  · exact dts_one (T h)
  · cases h
theorem noSet_ok {iter : Expr} {env : Env} (h : noSet iter = true) : ∀ x, foldedSetIterable iter env x = pure x := by
  intro x
  cases iter <;> first | rfl | (simp [noSet] at h)
/-- what a comprehension's parts are, once its mirror is there -/
theorem lc_parts (R : ROk r) (g : Good X W s) {elt tg iter : Expr} {ifs : List Expr} {scope : Scope} {F : EvL} (h : lcOf r s elt tg iter ifs scope = some F) : ∃ T it c f, F = lLC T it c f ((ownOf s.N scope).map (·.2)) ∧ (∀ i ∈ slots T, i ∈ (ownOf s.N scope).map (·.2)) ∧
    DI X W tg iter it ∧ BlkOk X.N X.env.scope scope (ownOf s.N scope) ∧ (∀ (sh : Shared) (H : Hp) (C : Addr) (cl : List (Str × Addr)) (fp : List Addr), DG (X.blk sh H scope (compEnvC scope cl C X.env) fp) tg T) ∧
    (∀ (sh : Shared) (H : Hp) (C : Addr) (cl : List (Str × Addr)) (fp : List Addr), DTs (X.blk sh H scope (compEnvC scope cl C X.env) fp) W0 ifs c) ∧
    (∀ (sh : Shared) (H : Hp) (C : Addr) (cl : List (Str × Addr)) (fp : List Addr), DE (X.blk sh H scope (compEnvC scope cl C X.env) fp) W0 elt f) ∧ ∀ x, foldedSetIterable iter X.env x = pure x := by
  unfold lcOf at h
  split at h
  · rename_i hb
    split at h
    · rename_i T it c f h1 h2 h3 h4
      split at h
      · rename_i hs
        cases h
        refine ⟨T, it, c, f, rfl, fun i hi => ?_, iter_ok g (R.E g) h2, by rw [g.hN, g.hsc]; exact blkOk_by hb.1, fun sh H C cl fp => tg_ok (g.blk sh H C cl fp) h1, fun sh H C cl fp => conds_ok (R.T (g.blk sh H C cl fp)) h3, fun sh H C cl fp => R.E (g.blk sh H C cl fp) h4, noSet_ok hb.2⟩
        have := List.all_eq_true.mp hs i hi
        simpa using this
      · cases h
    · cases h
  · cases h
theorem dc_ok (R : ROk r) (g : Good X W s) {kx vx tg iter : Expr} {ifs : List Expr} {scope : Scope} {pos : Pos} {F : EvN} (h : dcOf r s kx vx tg iter ifs scope = some F) : DN X W (.DictComp kx vx [⟨tg, iter, ifs, 0⟩] scope pos) F := by
  unfold dcOf at h
  split at h
  · rename_i hb
    split at h
    · rename_i T it c f v h1 h2 h3 h4 h5
      split at h
      · rename_i hs
        cases h
        refine dn_dc g.calm g.nd (iter_ok g (R.E g) h2) (by rw [g.hN, g.hsc]; exact blkOk_by hb.1) (fun i hi => ?_) (fun sh H C cl fp => tg_ok (g.blk sh H C cl fp) h1) (fun sh H C cl fp => conds_ok (R.T (g.blk sh H C cl fp)) h3) (fun sh H C cl fp => R.E (g.blk sh H C cl fp) h4) (fun sh H C cl fp => R.E (g.blk sh H C cl fp) h5) (noSet_ok hb.2)
        have := List.all_eq_true.mp hs i hi
        simpa using this
      · cases h
    · cases h
  · cases h
theorem newCall_ok (R : ROk r) (g : Good X W s) {x : Str} {p pos : Pos} {e : Expr} {es : List Expr} {f : EvN} (h : newCall r s x e es = some f) : DN X W (.Call (.Name x p) (e :: es) [] pos) f := by
  unfold newCall at h
  split at h
  · rename_i hg
    split at h
    · rename_i id fo F h1 h2
      cases h
      obtain ⟨⟨b1, b2⟩, b3⟩ := blts_ok g.calm g.guards g.units _ _ h1
      obtain ⟨p1, p2, p3⟩ := plainName_ok b3
      have hm : X.mg x = none := mg_none g (by
          have := List.all_eq_true.mp names_in.1 _ (lookup_mem h1)
          simpa using this)
      obtain ⟨a1, a2⟩ := args_head (env := X.env) (pos := pos) h2
      exact dn_bf b2 (isGl_ok g hg) hm b1 (args_ok (R.E g) h2) p3 p1 a1 a2
    · rename_i T fo F h1 h2
      cases h
      obtain ⟨⟨b1, b2⟩, b3⟩ := blts_ok g.calm g.guards g.units _ _ h1
      obtain ⟨p1, p2, p3⟩ := plainName_ok b3
      have hm : X.mg x = none := mg_none g (by
          have := List.all_eq_true.mp names_in.1 _ (lookup_mem h1)
          simpa using this)
      obtain ⟨a1, a2⟩ := args_head (env := X.env) (pos := pos) h2
      exact dn_bt b2 (isGl_ok g hg) hm b1 (args_ok (R.E g) h2) p3 p1 a1 a2
    · cases h
  · cases h
theorem new_ok (R : ROk r) (g : Good X W s) {e : Expr} {f : EvN} (h : newOf r s e = some f) : DN X W e f := by
  unfold newOf at h
  split at h
  · obtain ⟨F, h1, rfl⟩ := Option.map_eq_some_iff.mp h
    exact dn_lst (dl_lst (args_ok (R.E g) h1))
  · obtain ⟨F, h1, rfl⟩ := Option.map_eq_some_iff.mp h
    obtain ⟨T, it, c, f, rfl, h2, h3, h4, h5, h6, h7, h8⟩ := lc_parts R g h1
    exact dn_lst (dl_lc g.calm g.nd h3 h4 h2 h5 h6 h7 h8)
  · cases h
    exact PE.imp pe_dnewK fun σ H Q ⟨ω, ρ, S, a, p⟩ q n => PostN.fin a p n (.dct .nil)
  · exact dc_ok R g h
  · split at h
    · rename_i F k h1 h2
      cases h
      exact dn_rep (dl_lst (args_ok (R.E g) h1)) (R.E g h2)
    · cases h
  · split at h
    · rename_i f1 g1 h1 h2
      cases h
      exact dn_disp1 (R.E g h1) (R.E g h2)
    · cases h
  · split at h
    · rename_i hx
      simp only [Bool.and_eq_true] at hx
      rw [eq_of_beq hx.1, eq_of_beq hx.2]
      split at h
      · rename_i hc
        obtain ⟨f1, h1, rfl⟩ := Option.map_eq_some_iff.mp h
        exact dn_rg g.calm (isGl_ok g hc.1) (mg_none g (by decide +kernel)) (isGl_ok g hc.2.1) (mg_none g (by decide +kernel)) (R.E g h1) (star1 hc.2.2)
      · cases h
    · split at h
      · rename_i hx
        simp only [Bool.and_eq_true] at hx
        rw [eq_of_beq hx.1, eq_of_beq hx.2]
        split at h
        · rename_i hc
          obtain ⟨f1, h1, rfl⟩ := Option.map_eq_some_iff.mp h
          exact dn_srtSet g.calm (isGl_ok g hc.1) (mg_none g (by decide +kernel)) (isGl_ok g hc.2.1) (mg_none g (by decide +kernel)) (R.E g h1) (star_head hc.2.2)
        · cases h
      · exact newCall_ok R g h
  · exact newCall_ok R g h
  · cases h
theorem call_ok (R : ROk r) (g : Good X W s) {x : Str} {p pos : Pos} {e : Expr} {es : List Expr} {f : Ev} (h : callOf r s x (e :: es) = some f) : DE X W (.Call (.Name x p) (e :: es) [] pos) f := by
  unfold callOf at h
  split at h
  · rename_i hc
    obtain ⟨p1, p2, p3⟩ := plainName_ok hc.2
    split at h
    · cases h
    · rename_i F hF
      obtain ⟨a1, a2⟩ := args_head (env := X.env) (pos := pos) hF
      have dF := args_ok (X := X) (W := W) (R.E g) hF
      split at h
      · rename_i fe he
        cases h
        obtain ⟨hl, fa, fd, ps, ds, dvs, m1, m2, m3, m4, m5, m6⟩ := g.G.fns _ _ he
        exact de_call m3 (g.room.mono hl) g.guards (isGl_ok g hc.1) m1 m2 m4 m5 m6 g.tk dF p1 a1 a2
      · split at h
        · rename_i id fo h1
          cases h
          obtain ⟨⟨b1, b2⟩, b3⟩ := blts_ok g.calm g.guards g.units _ _ h1
          have hm : X.mg x = none := mg_none g (by
            have := List.all_eq_true.mp names_in.1 _ (lookup_mem h1)
            simpa using this)
          exact de_bf b2 (isGl_ok g hc.1) hm b1 dF p3 p1 a1 a2
        · rename_i T fo h1
          cases h
          obtain ⟨⟨b1, b2⟩, b3⟩ := blts_ok g.calm g.guards g.units _ _ h1
          have hm : X.mg x = none := mg_none g (by
            have := List.all_eq_true.mp names_in.1 _ (lookup_mem h1)
            simpa using this)
          exact de_bt b2 (isGl_ok g hc.1) hm b1 dF p3 p1 a1 a2
        · cases h
  · cases h
theorem base_ok {o : Expr} {name : Str} {env : Env} (h : plainBase o = true) : attributeBase o name env (eval o env) = eval o env := by
  unfold attributeBase
  split
  · rename_i id p q
    have hn : (id != ("super" : Str)) = true := by
      simp only [plainBase, Bool.not_eq_true'] at h
      simp [bne, h]
    rw [hn]
    rfl
  · rfl
theorem plainIx_ok {i : Expr} (h : plainIx i = true) : PlainIx i := by
  intro o v
  cases i <;> first | rfl | (simp [plainIx] at h)
theorem len_args {E : Sx → Expr → Option Ev} {s : Sx} {es : List Expr} {F : EvL} (h : argsOf E s es = some F) : True := trivial
theorem stepE_ok (R : ROk r) (g : Good X W s) {e : Expr} {f : Ev} (h : stepE r s e = some f) : DE X W e f := by
  have E := @ROk.E r R X W s g
  unfold stepE at h
  split at h
  · exact name_ok g h
  · obtain ⟨d, h1, rfl⟩ := Option.map_eq_some_iff.mp h
    exact const_ok h1
  · split at h
    · rename_i f1 g1 h1 h2
      cases h
      exact de_bin (E h1) (E h2)
    · cases h
  · obtain ⟨d, h1, rfl⟩ := Option.map_eq_some_iff.mp h
    exact de_un rfl (E h1)
  · obtain ⟨d, h1, rfl⟩ := Option.map_eq_some_iff.mp h
    exact de_not (E h1)
  · split at h
    · rename_i hm
      split at h
      · rename_i f1 g1 h1 h2
        cases h
        exact de_cmp g.units (E h1) (E h2) hm
      · cases h
    · cases h
  · split at h
    · rename_i hm
      split at h
      · rename_i f1 g1 k1 h1 h2 h3
        cases h
        exact de_chain g.units (E h1) (E h2) (E h3) hm
      · cases h
    · cases h
  · exact and_ok E h
  · exact or_ok E h
  · split at h
    · rename_i A f1 g1 h1 h2 h3
      cases h
      exact de_if (R.T g h1) (E h2) (E h3)
    · cases h
  · obtain ⟨F, h1, rfl⟩ := Option.map_eq_some_iff.mp h
    exact de_tup (args_ok E h1)
  · split at h
    · rename_i f1 l1 m1 h1 h2 h3
      cases h
      exact de_sl (E h1) (part_ok E h2) (part_ok E h3)
    · cases h
  · split at h
    · rename_i hp
      split at h
      · rename_i f1 g1 h1 h2
        cases h
        exact de_ix g.u1 (E h1) (E h2) (plainIx_ok hp)
      · cases h
    · cases h
  · split at h
    · rename_i f1 h1
      cases h
      exact call_ok R g h1
    · obtain ⟨F, h1, rfl⟩ := Option.map_eq_some_iff.mp h
      exact de_fixN (R.N g h1)
  · rename_i o name apos es cpos
    split at h
    · rename_i hc
      split at h
      · rename_i tab f1 F h1 h2 h3
        cases h
        have tk := mtabs_ok (X := X) g.units _ _ h1
        cases es with
        | nil => cases h3; exact de_meth0 tk (E h2) (base_ok hc.1) hc.2.1
        | cons e es =>
          obtain ⟨a1, a2⟩ := args_head (env := X.env) (pos := cpos) h3
          refine de_meth tk (E h2) (argsG_ok (argE_ok R g) h3) (base_ok hc.1) ?_ hc.2.1 a1 a2
          rw [star_all h3]
          have := hc.2.2
          simp only [Bool.true_and, Bool.and_eq_true, decide_eq_true_eq]
          refine ⟨rfl, ?_⟩
          simp only [List.length_nil, List.isEmpty_nil, if_true, Nat.add_zero]
          omega
      · cases h
    · cases h
  · obtain ⟨F, h1, rfl⟩ := Option.map_eq_some_iff.mp h
    exact de_fixN (R.N g h1)
theorem stepT_ok (R : ROk r) (g : Good X W s) {e : Expr} {f : EvB} (h : stepT r s e = some f) : DT X W e f := by
  have E := @ROk.E r R X W s g
  have T := @ROk.T r R X W s g
  unfold stepT at h
  split at h
  · obtain ⟨d, h1, rfl⟩ := Option.map_eq_some_iff.mp h
    exact dt_not (T h1)
  · exact (band_ok T h).pt
  · exact (bor_ok T h).pt
  · cases h
  · split at h
    · rename_i hm
      split at h
      · rename_i f1 g1 h1 h2
        cases h
        exact dt_cmp g.units (E h1) (E h2) hm
      · cases h
    · cases h
  · split at h
    · rename_i hm
      split at h
      · rename_i f1 g1 k1 h1 h2 h3
        cases h
        exact dt_chain g.units (E h1) (E h2) (E h3) hm
      · cases h
    · cases h
  · cases h
  · rename_i k1 k2 k3 k4 k5 k6 k7
    obtain ⟨d, h1, rfl⟩ := Option.map_eq_some_iff.mp h
    refine dt_val (E h1) fun whole => ?_
    cases e with
    | UnaryOp op a p => cases op <;> first | rfl | exact absurd rfl (k1 _ _)
    | BoolOp op a p => cases op <;> first | exact absurd rfl (k2 _ _) | exact absurd rfl (k3 _ _)
    | IfExp a b c p => exact absurd rfl (k4 _ _ _ _)
    | Compare a b c p => exact absurd rfl (k7 _ _ _ _)
    | _ => rfl
end
theorem dens_ok (n : Nat) : ROk (dens n) := by
  induction n with
  | zero => exact ⟨by intro X W s g e f h; contradiction, by intro X W s g e f h; contradiction, by intro X W s g e f h; contradiction⟩
  | succ n ih => exact ⟨by intro X W s g e f h; exact stepE_ok ih g h, by intro X W s g e f h; exact stepT_ok ih g h, by intro X W s g e f h; exact new_ok ih g h⟩
end PL
end
section
set_option Elab.async false
set_option linter.all false
set_option maxRecDepth 100000
set_option maxHeartbeats 4000000
set_option autoImplicit false
/-! Part q: the mirror is right: statements. -/
namespace PL
open PySem L2 PySem.Spec PyProof.Rows

structure GoodS (X : Cx) (W : WX) (s : Sx) : Prop where
  g : Good X W s
  pw : PassesOwn (model X.prog X.w) X.A X.env X.xe
  kind : s.sc.kind = .function
section
variable {X : Cx} {W : WX} {s : Sx} {r : Rec}
theorem GoodS.bk (g : GoodS X W s) : X.env.blockKind = .function := by
  unfold Env.blockKind
  rw [g.g.hsc, g.kind]; rfl
theorem swapB_ok (g : GoodS X W s) {e : Expr} {x : Str} {p : Pos} {l : Nat} : swapsWith e (some (.Name x p)) l X.env = pure (swapB s e x p) := by
  have hk : X.env.kindOf x = s.sc.names.lookup x := by show X.env.scope.names.lookup x = _; rw [g.g.hsc]
  have fn : (ScopeKind.function == ScopeKind.function) = true := by decide
  unfold swapsWith swapB
  cases e <;> simp only [g.bk, hk, fn, Bool.true_and] <;> rfl
theorem noComp_ok {e : Expr} {t : Option Expr} {l : Nat} {env : Env} (h : noComp e = true) : swapsWith e t l env = pure false := by
  cases e <;> first | rfl | (simp [noComp] at h)
theorem new_of_lc (R : ROk r) (g : Good X W s) : True := trivial
theorem val_ok (R : ROk r) (g : Good X W s) {x : Str} {e : Expr} {f : Ev} (h : valOf r s x e = some f) : DE X W e f := by
  unfold valOf at h
  split at h
  · obtain ⟨F, h1, rfl⟩ := Option.map_eq_some_iff.mp h
    exact de_thaw (R.N g h1)
  · exact R.E g h
theorem set_ok (R : ROk r) (g : GoodS X W s) {x : Str} {p pos : Pos} {e : Expr} {t : St'} (h : setOf r s x p e = some t) : DS X W (.Assign [.Name x p] e pos) t := by
  unfold setOf at h
  split at h
  · rename_i hl
    obtain ⟨l1, l2⟩ := isLoc_ok g.g hl
    split at h
    · cases h
    · rename_i i hi
      have hN : X.N[i]? = some x := by rw [g.g.hN]; exact idx_ok hi
      split at h
      · rename_i hs
        split at h
        · rename_i elt tg iter ifs scope q
          obtain ⟨F, h1, rfl⟩ := Option.map_eq_some_iff.mp h
          obtain ⟨T, it, c, f, rfl, h2, h3, h4, h5, h6, h7, h8⟩ := lc_parts R g.g h1
          have hloc : X.env.scope.names.lookup x = some .local := by
            rw [g.g.hsc]
            simp only [swapB, Bool.and_eq_true] at hs
            exact eq_of_beq hs.1.1
          refine ds_setLc (fx := if s.thaw.contains x = true then eThaw else eFixN) (by split <;> simp) g.g.calm g.g.nd hN hloc (by rw [swapB_ok g, hs]) h3 h4 h2 h5 h6 h7 h8
        · cases h
      · rename_i hs
        obtain ⟨f, h1, rfl⟩ := Option.map_eq_some_iff.mp h
        refine ds_set g.g.nd hN l1 l2 (val_ok R g.g h1) ?_
        rw [swapB_ok g]
        simp only [Bool.not_eq_true] at hs
        rw [hs]
  · cases h

/-! ### targets of every kind -/
def tDGf (K : PySem.W.Frag) (mg : Str → Option Value) (W : WX) (g : Gf) : TG := fun v σ H Q => ∃ ω d ρ S, At K mg ω H σ ρ S ∧ Rep K mg ω H d v ∧ PostS K mg W ω H (g d ρ S) { nx := Q, rt := fun _ _ => False }
def tDGfs (K : PySem.W.Frag) (mg : Str → Option Value) (W : WX) (g : List Gf) : TGs := fun v σ H Q => ∃ ω d ρ S, At K mg ω H σ ρ S ∧ Reps K mg ω H d v ∧ PostS K mg W ω H (gfs g d ρ S) { nx := Q, rt := fun _ _ => False }
theorem assign_sub {o i : Expr} {p : Pos} {env : Env} (h : plainIx i = true) : ∀ v, assign (.Subscript o i p) env v = (do
      let ov ← holding [v] (eval o env)
      let iv ← holding [v, ov] (eval i env)
      standAt p
      holding [v, ov, iv] (setItem ov iv v)
      release [v, ov, iv] []) := by
  intro v
  cases i <;> first | rfl | (simp [plainIx] at h)
mutual
theorem gf_ok (R : ROk r) (g : Good X W s) : ∀ {e : Expr} {G : Gf}, gfOf r.E s e = some G → PG X e (tDGf X.K X.mg W G)
  | .Name x p, T, h => by
    simp only [gfOf] at h
    split at h
    · rename_i hl
      obtain ⟨i, hi, rfl⟩ := Option.map_eq_some_iff.mp h
      obtain ⟨l1, l2⟩ := isLoc_ok g hl
      refine PG.imp (pg_name g.nd (by rw [g.hN]; exact idx_ok hi) l1 l2) fun v σ H Q ⟨ω, d, ρ, S, a, rr, q⟩ => ?_
      exact q _ ω H Ext.refl a.st (a.fr.set rr)
    · cases h
  | .Subscript o i p, T, h => by
    simp only [gfOf] at h
    split at h
    · rename_i hpi
      split at h
      · rename_i f1 g1 h1 h2
        cases h
        refine PG.imp (pg_sub (R.E g h1) (R.E g h2) (put_all g.u1) (assign_sub hpi)) fun v σ H Q ⟨ω, d, ρ, S, a, rr, q⟩ => ?_
        refine tD_bindS a q fun od S2 x ω2 H2 e2 a2 r2 p2 => ?_
        refine tD_bindS a2 p2 fun id S3 y ω3 H3 e3 a3 r3 p3 => ?_
        exact put_go a3 (r2.keep a2.st.ok e3) r3 ((rr.keep a.st.ok e2).keep a2.st.ok e3) p3
      · cases h
    · cases h
  | .Tuple es k p, T, h => by
    simp only [gfOf] at h
    obtain ⟨ts, h1, rfl⟩ := Option.map_eq_some_iff.mp h
    obtain ⟨a, b, c⟩ := gfs_ok R g h1
    refine PG.imp (pg_tup g.calm a rfl c) fun v σ H Q ⟨ω, d, ρ, S, at_, rr, q⟩ => ?_
    cases d <;> simp only [gfTup] at q <;> try exact q.elim
    rename_i xs
    cases rr with
    | tup hq rr =>
      split at q
      · rename_i hl
        exact ⟨_, _, rfl, SqT.of hq, by rw [b, ← rr.length, hl], ω, xs, ρ, S, at_, rr, q⟩
      · exact q.elim
  | .BoolOp .., T, h => by simp [gfOf] at h
  | .NamedExpr .., T, h => by simp [gfOf] at h
  | .BinOp .., T, h => by simp [gfOf] at h
  | .UnaryOp .., T, h => by simp [gfOf] at h
  | .Lambda .., T, h => by simp [gfOf] at h
  | .IfExp .., T, h => by simp [gfOf] at h
  | .Dict .., T, h => by simp [gfOf] at h
  | .Set .., T, h => by simp [gfOf] at h
  | .ListComp .., T, h => by simp [gfOf] at h
  | .SetComp .., T, h => by simp [gfOf] at h
  | .DictComp .., T, h => by simp [gfOf] at h
  | .GeneratorExp .., T, h => by simp [gfOf] at h
  | .Await .., T, h => by simp [gfOf] at h
  | .Yield .., T, h => by simp [gfOf] at h
  | .YieldFrom .., T, h => by simp [gfOf] at h
  | .Compare .., T, h => by simp [gfOf] at h
  | .Call .., T, h => by simp [gfOf] at h
  | .FormattedValue .., T, h => by simp [gfOf] at h
  | .JoinedStr .., T, h => by simp [gfOf] at h
  | .Constant .., T, h => by simp [gfOf] at h
  | .Attribute .., T, h => by simp [gfOf] at h
  | .Starred .., T, h => by simp [gfOf] at h
  | .List .., T, h => by simp [gfOf] at h
  | .Slice .., T, h => by simp [gfOf] at h
theorem gfs_ok (R : ROk r) (g : Good X W s) : ∀ {es : List Expr} {Gs : List Gf}, gfsOf r.E s es = some Gs → PGs X es (tDGfs X.K X.mg W Gs) ∧ (assignEach es X.env).length = Gs.length ∧ (assignEach es X.env).findIdx? (·.1) = none
  | [], Ts, h => by
    simp only [gfsOf, Option.some.injEq] at h
    subst h
    refine ⟨PGs.imp pgs_nil fun v σ H Q ⟨ω, d, ρ, S, a, rr, q⟩ => ?_, rfl, rfl⟩
    cases rr with
    | nil => exact ⟨rfl, q _ ω H Ext.refl a.st a.fr⟩
    | cons _ _ => exact q.elim
  | e :: es, Ts, h => by
    simp only [gfsOf] at h
    split at h
    · rename_i t ts h1 h2
      cases h
      obtain ⟨a, b, c⟩ := gfs_ok R g h2
      have hd : assignEach (e :: es) X.env = (false, assign e X.env) :: assignEach es X.env := by
        cases e <;> first | rfl | (simp [gfOf] at h1)
      refine ⟨PGs.imp (pgs_cons (gf_ok R g h1) a (by rw [hd]; rfl)) fun v σ H Q ⟨ω, d, ρ, S, a, rr, q⟩ => ?_, by rw [hd]; simp [b], ?_⟩
      · cases rr with
        | nil => exact q.elim
        | @cons dd vv dds vvs rr rs =>
          refine ⟨_, _, rfl, ω, dd, ρ, S, a, rr, ?_⟩
          unfold gfs at q
          cases hg : t dd ρ S with
          | nx ρ1 S1 =>
            rw [hg] at q
            exact fun σ1 ω1 H1 e1 s1 f1 => ⟨ω1, dds, ρ1, S1, ⟨s1, f1⟩, rs.keep a.st.ok e1, PostS.sh e1 q⟩
          | rt d S1 => rw [hg] at q; exact q
          | bk ρ1 S1 => rw [hg] at q; exact q
          | ct ρ1 S1 => rw [hg] at q; exact q
          | ex x ρ1 S1 => rw [hg] at q; exact q
          | bad => rw [hg] at q; exact q
      · rw [hd, List.findIdx?_cons, c]
        rfl
    · cases h
end
end
end PL
end
section
set_option Elab.async false
set_option linter.all false
set_option maxRecDepth 100000
set_option maxHeartbeats 4000000
set_option autoImplicit false
/-! Part r: the mirror is right: assignments, blocks, defs. -/
namespace PL
open PySem L2 PySem.Spec PyProof.Rows C8
section
variable {X : Cx} {W : WX} {s : Sx} {r : Rec}
theorem ds_asgG {tg e : Expr} {f : Ev} {G : Gf} {pos : Pos} (he : DE X W e f) (hg : PG X tg (tDGf X.K X.mg W G)) (hs : swapsWithSole [tg] e pos.line X.env = pure false) (hw : swappedStores [tg] e X.env = pure none) (h1 : (assignEach [tg] X.env).map (·.2) = [assign tg X.env]) :
    DS X W (.Assign [tg] e pos) (sAsg G f) := PS.imp (ps_asg he hg hs hw h1) fun D σ H ⟨ω, ρ, S, a, h⟩ => by
  refine tD_bindS a h fun d S1 v ω1 H1 e1 a1 r1 p1 => ⟨ω1, d, ρ, S1, a1, r1, ?_⟩
  cases hg' : G d ρ S1 with
  | nx ρ1 S2 => rw [hg'] at p1; exact p1
  | ex x ρ1 S2 => rw [hg'] at p1; exact p1
  | rt d S2 => rw [hg'] at p1; exact p1.elim
  | bk ρ1 S2 => rw [hg'] at p1; exact p1.elim
  | ct ρ1 S2 => rw [hg'] at p1; exact p1.elim
  | bad => rw [hg'] at p1; exact p1.elim
theorem swapped_ok (g : GoodS X W s) {tgs : List Expr} {e : Expr} {o : Option (List Str)} (h : swapped s.sc tgs e = some o) : swappedStores tgs e X.env = pure o := by
  have hk : ∀ x, X.env.kindOf x = s.sc.names.lookup x := fun x => by show X.env.scope.names.lookup x = _; rw [g.g.hsc]
  have hb := g.bk
  have hfn : (ScopeKind.function != ScopeKind.function) = false := rfl
  unfold swapped at h
  unfold swappedStores
  split at h
  · rename_i hm
    cases h
    split at hm
    · cases hm
    · cases hm
    · rename_i k1 k2
      split
      · rename_i ts vs hm2
        split at hm2
        · exact (k1 _ _ _ _ _ _ rfl rfl).elim
        · exact (k2 _ _ _ _ _ rfl rfl).elim
        · cases hm2
      · rfl
  · rename_i ts vs hm
    split at hm
    · cases hm
      dsimp only
      simp only [hk, hb, hfn, Bool.or_false]
      dsimp only at h
      split at h
      · rename_i c1; cases h; rw [if_pos c1]
      · rename_i c1
        rw [if_neg c1]
        split at h
        · rename_i c2
          cases h
          split
          · rfl
          · rename_i d2; exact absurd c2 d2
        · rename_i c2
          split
          · rename_i d2; exact absurd d2 c2
          · split at h
            · rename_i c3
              cases h
              split
              · rfl
              · rename_i d3; exact absurd c3 d3
            · rename_i c3
              split
              · rename_i d3; exact absurd d3 c3
              · split at h
                · rename_i c4; cases h; rw [if_pos c4]
                · rename_i c4
                  rw [if_neg c4]
                  split at h
                  · cases h
                  · rename_i c5; cases h; rw [if_neg c5]; rfl
    · cases hm
      dsimp only
      simp only [hk, hb, hfn, Bool.or_false]
      dsimp only at h
      split at h
      · rename_i c1; cases h; rw [if_pos c1]
      · rename_i c1
        rw [if_neg c1]
        split at h
        · rename_i c2
          cases h
          split
          · rfl
          · rename_i d2; exact absurd c2 d2
        · rename_i c2
          split
          · rename_i d2; exact absurd d2 c2
          · split at h
            · rename_i c3
              cases h
              split
              · rfl
              · rename_i d3; exact absurd c3 d3
            · rename_i c3
              split
              · rename_i d3; exact absurd d3 c3
              · split at h
                · rename_i c4; cases h; rw [if_pos c4]
                · rename_i c4
                  rw [if_neg c4]
                  split at h
                  · cases h
                  · rename_i c5; cases h; rw [if_neg c5]; rfl
    · cases hm
theorem parts_ok (R : ROk r) (g : Good X W s) : ∀ {ts es : List Expr} {F : EvL}, partsOf r s ts es = some F → DA X W es F
  | [], [], F, h => by
    simp only [partsOf, Option.some.injEq] at h
    subst h; exact da_nil
  | t :: ts, e :: es, F, h => by
    unfold partsOf at h
    split at h
    · rename_i hn
      split at h
      · rename_i f G h1 h2
        cases h
        refine da_cons ?_ (parts_ok R g h2) (star_head hn)
        split at h1
        · exact val_ok R g h1
        · exact R.E g h1
      · cases h
    · cases h
  | [], _ :: _, F, h => by simp [partsOf] at h
  | _ :: _, [], F, h => by simp [partsOf] at h
theorem sole_ok {tg e : Expr} {l : Nat} {env : Env} (h : noComp e = true) : swapsWithSole [tg] e l env = pure false := noComp_ok (t := some tg) h
theorem assign_one {tg : Expr} {env : Env} (h : noStar tg = true) : (assignEach [tg] env).map (·.2) = [assign tg env] := by
  cases tg <;> first | rfl | (simp [noStar] at h)
theorem asg_ok (R : ROk r) (g : GoodS X W s) {tg e : Expr} {pos : Pos} {t : St'} (h : asgOf r s tg e = some t) : DS X W (.Assign [tg] e pos) t := by
  unfold asgOf at h
  split at h
  · rename_i x px y py kt pt a b k2 pt2 x' y' hsw
    split at h
    · rename_i hc
      have e1 := eq_of_beq hc.1
      have e2 := eq_of_beq hc.2.1
      subst e1 e2
      split at h
      · rename_i i j F h1 h2 h3
        split at h
        · cases h
        · rename_i hij
          cases h
          have loc : ∀ {z : Str}, isLocal s z = true → X.env.scope.names.lookup z = some .local := fun {z} hz => by
            rw [g.g.hsc]; exact eq_of_beq hz
          exact ds_par g.g.calm g.g.nd (by rw [g.g.hN]; exact idx_ok h1) (by rw [g.g.hN]; exact idx_ok h2) hij (loc hc.2.2.1) (loc hc.2.2.2) (parts_ok R g.g h3) (swapped_ok g hsw) rfl
      · cases h
    · cases h
  · rename_i x px y py z pz kt pt a b c k2 pt2 x' y' z' hsw
    split at h
    · rename_i hc
      have e1 := eq_of_beq hc.1
      have e2 := eq_of_beq hc.2.1
      have e3 := eq_of_beq hc.2.2.1
      subst e1 e2 e3
      split at h
      · rename_i i j l F h1 h2 h3 h4
        split at h
        · cases h
        · rename_i hij
          cases h
          have loc : ∀ {z : Str}, isLocal s z = true → X.env.scope.names.lookup z = some .local := fun {z} hz => by
            rw [g.g.hsc]; exact eq_of_beq hz
          have at_ : ∀ {z : Str} {n : Nat}, idx s.N z = some n → X.N[n]? = some z := fun hz => by rw [g.g.hN]; exact idx_ok hz
          exact ds_par3 g.g.calm g.g.nd (at_ h1) (at_ h2) (at_ h3) (fun e => hij (.inl e)) (fun e => hij (.inr (.inl e))) (fun e => hij (.inr (.inr e))) (loc hc.2.2.2.1) (loc hc.2.2.2.2.1) (loc hc.2.2.2.2.2) (parts_ok R g.g h4) (swapped_ok g hsw) rfl
      · cases h
    · cases h
  · rename_i ts kt pt es k2 pt2 hsw
    split at h
    · rename_i G F h1 h2
      cases h
      exact ds_asgG (de_tup (parts_ok R g.g h2)) (gf_ok R g.g h1) rfl (swapped_ok g hsw) rfl
    · cases h
  · rename_i hsw
    split at h
    · rename_i hc
      split at h
      · rename_i G f h1 h2
        cases h
        exact ds_asgG (R.E g.g h2) (gf_ok R g.g h1) (noComp_ok hc.1) (swapped_ok g hsw) (assign_one hc.2)
      · cases h
    · cases h
  · cases h
theorem aug_all (op : Operator) (ho : isAug op = true) : PIp X op (rB2 X.K X.mg (augD op)) := by
  intro pins s' σ H x y v u Q I rx ry ⟨ω, d, e, S, st, r1, r2, p⟩
  unfold augD at p
  split at p
  · cases r1; cases r2
    exact in_add pins s' σ H _ _ v u Q I rx ry ⟨_, _, rfl, rfl, p.fin st (.int _)⟩
  · cases r1; cases r2
    exact in_sub pins s' σ H _ _ v u Q I rx ry ⟨_, _, rfl, rfl, p.fin st (.int _)⟩
  · cases ho
  · cases r1; cases r2
    split at p
    · rename_i hl
      exact in_addS pins s' σ H _ _ v u Q I rx ry ⟨_, _, rfl, rfl, lenFits_le hl, p.fin st (.str _)⟩
    · exact p.elim
  · exact p.elim
theorem ds_aug {i : Nat} {x : Str} {p' pos : Pos} {op : Operator} {e : Expr} {f : Ev} (g : Good X W s) (hi : idx s.N x = some i) (hl : isLoc s x = true) (ho : isAug op = true) (he : DE X W e f) : DS X W (.AugAssign (.Name x p') op e pos) (sAug i op f) := by
  obtain ⟨l1, l2⟩ := isLoc_ok g hl
  refine PS.imp (ps_aug g.nd (by rw [g.hN]; exact idx_ok hi) l1 he (aug_all op ho) l2) fun D σ H ⟨ω, ρ, S, a, h⟩ => ?_
  unfold sAug at h
  split at h
  · rename_i d hd
    obtain ⟨v, hv, rv⟩ := a.fr.val i d hd
    refine ⟨v, hv, tD_bindS a h fun y S1 w ω1 H1 e1 a1 r1 p1 => ?_⟩
    refine ⟨ω1, d, y, S1, a1.st, rv.keep a.st.ok e1, r1, ?_⟩
    cases hz : augD op d y S1 with
    | ok z S2 =>
      rw [hz] at p1
      exact fun w2 ω2 H2 e2 s2 r2 => p1 _ ω2 H2 e2 s2 ((a1.fr.keep a1.st.ok e2).set r2)
    | ex z S2 => rw [hz] at p1; exact p1.elim
    | bad => rw [hz] at p1; exact p1.elim
  · exact h.elim
theorem block_ok {Fo : Stmt → Option St'} (hF : ∀ {st t}, Fo st = some t → DS X W st t) : ∀ {sts : List Stmt} {t : St'}, blockOf Fo sts = some t → DB X W sts t
  | [], t, h => by cases h; exact db_nil
  | [st], t, h => db_one (hF h)
  | st :: a :: rest, t, h => by
    rw [blockOf] at h
    split at h
    · rename_i t1 t2 h1 h2
      cases h
      exact db_cons (hF h1) (block_ok hF h2)
    · cases h
    · simp
theorem items_ok {tg iter : Expr} {i : Nat} (h : itemsOf' s tg iter = some i) : ∃ elts kk tpos x p apos cpos, tg = .Tuple elts kk tpos ∧ iter = .Call (.Attribute (.Name x p) "items" apos) [] [] cpos ∧ isVis s x = true ∧ plainName x = true ∧ (apos.endLine == cpos.line) = true ∧ idx s.N x = some i := by
  unfold itemsOf' at h
  split at h
  · split at h
    · rename_i hc
      obtain ⟨h1, h2, h3, h4⟩ := hc
      rw [eq_of_beq h1]
      exact ⟨_, _, _, _, _, _, _, rfl, rfl, h2, h3, h4, h⟩
    · cases h
  · cases h
theorem step_ok (R : ROk r) {q : RecS} (g : GoodS X W s) (hq : ∀ {st t}, q.S s st = some t → DS X W st t) {st : Stmt} {t : St'} (h : stepS r q s st = some t) : DS X W st t := by
  have E := @ROk.E r R X W s g.g
  unfold stepS at h
  split at h
  · cases h; exact ds_pass
  · cases h; exact ds_break
  · cases h; exact ds_cont
  · cases h; exact ds_retN
  · obtain ⟨f, h1, rfl⟩ := Option.map_eq_some_iff.mp h
    exact ds_ret (val_ok R g.g h1)
  · cases h; exact ds_bad
  · cases h; exact ds_doc
  · split at h
    · rename_i hc
      obtain ⟨f, h1, rfl⟩ := Option.map_eq_some_iff.mp h
      exact ds_expr (E h1) (noComp_ok hc)
    · cases h
  · split at h
    · rename_i A t1 t2 h1 h2 h3
      cases h
      exact ds_if (R.T g.g h1) (block_ok hq h2) (block_ok hq h3)
    · cases h
  · split at h
    · rename_i hn
      split at h
      · rename_i i hi
        obtain ⟨elts, kk, tpos, x, p', apos, cpos, rfl, rfl, v1, v2, v3, v4⟩ := items_ok hi
        split at h
        · rename_i T b h1 h3
          cases h
          obtain ⟨p1, p2, _⟩ := plainName_ok v2
          exact ds_items g.pw g.g.calm (by rw [g.g.hN]; exact idx_ok v4) (isVis_ok g.g v1) p1 p2 v3 (tg_ok g.g h1) (block_ok hq h3)
        · cases h
      · split at h
        · rename_i T it b h1 h2 h3
          cases h
          exact ds_for g.pw g.g.calm (iter_ok g.g E h2) (tg_ok g.g h1) (block_ok hq h3) (noSet_ok hn)
        · cases h
    · cases h
  · split at h
    · rename_i A b h1 h2
      cases h
      exact ds_while g.pw (R.T g.g h1) (block_ok hq h2)
    · cases h
  · exact set_ok R g h
  · split at h
    · rename_i hc
      split at h
      · rename_i fo fi fv h1 h2 h3
        cases h
        exact ds_put g.g.u1 (E h1) (E h2) (E h3) (sole_ok hc.1) rfl rfl (assign_sub hc.2)
      · cases h
    · cases h
  · exact asg_ok R g h
  · split at h
    · rename_i hc
      split at h
      · rename_i i f h1 h2
        cases h
        exact ds_aug g.g h1 hc.1 hc.2 (E h2)
      · cases h
    · cases h
  · cases h
theorem denS_ok (g : GoodS X W s) : ∀ (n : Nat) {st : Stmt} {t : St'}, (denS n).S s st = some t → DS X W st t := by
  intro n
  induction n with
  | zero => intro st t h; contradiction
  | succ n ih => intro st t h; exact step_ok (dens_ok 60) g ih h
theorem denB_ok (g : GoodS X W s) {body : List Stmt} {t : St'} (h : denB s body = some t) : DB X W body t := block_ok (denS_ok g 20) h
end

/-! ### a def of the text -/
/-- a def by its mirror: the names N, the parameters ps, its level k + 1 -/
theorem fn_fact {P : Program} {w : World} {K : PySem.W.Frag} {mg : Str → Option Value} {base : Heap} {k : Nat} {f : Addr} {x name qual : Str} {params : Arguments} {body : List Stmt} {scope : Scope} {dV kV doc pm cdv ct oc : Value} {an od : Option Addr}
    {osl : Array (Option Value)} {N ps : List Str} {keep : Bool} {t : St'} {G : Gen} {th : List Str} {ds : List Value} {dvs : List V} {dd : List D} (lk : K.lookup f = some ⟨oc, od, .func (PySem.W.fnOf name qual params body scope dV kV doc pm an cdv ct), osl⟩) (hcd : PySem.W.codeIn K cdv qual = true)
    (hk : PySem.W.keepIn K (.ref f) = true) (hm : mg x = some (.ref f)) (S : scC N ps scope = true) (GO : GOk P w K mg base G k) (hb : Binds K (PySem.W.fnOf name qual params body scope dV kV doc pm an cdv ct) ps ds) (hv : Vals dvs ds) (hdd : ∀ ω H, Reps K mg ω H dd dvs)
    (h : denB ⟨N, scope, scope, G, k, th⟩ body = some t) : FnFact P w K mg base x ⟨mkFn N.length ps.length keep t, dd, k + 1⟩ := by
  have Sc := fnScope_by S
  refine ⟨f, _, ps, ds, dvs, hm, hk, ?_, hb, hv, hdd⟩
  refine fnd_of lk hcd Sc fun A outer s H E hr hg tk pw => ?_
  have gd : Good (cxOf (L2.CX P w) P w K mg base N qual scope f cdv A outer s H E) (fun c d _ H => E c d H) ⟨N, scope, scope, G, k, th⟩ :=
    { hN := rfl, nd := Sc.nd, hsc := rfl, calm := rfl, room := hr, guards := hg, tk := tk, cell := fun _ _ => rfl, G := GO }
  exact denB_ok ⟨gd, pw, Sc.kind⟩ h
/-- one def more -/
theorem GOk.cons {P : Program} {w : World} {K : PySem.W.Frag} {mg : Str → Option Value} {base : Heap} {G : Gen} {k j : Nat} {x : Str} {e : FnE} (GO : GOk P w K mg base G k) (F : FnFact P w K mg base x e) (h1 : k ≤ j) (h2 : e.lv ≤ j) : GOk P w K mg base ⟨(x, e) :: G.fns, G.consts⟩ j :=
  ⟨fun y e' h => by
    have h : ((x, e) :: G.fns).lookup y = some e' := h
    rw [List.lookup_cons] at h
    split at h
    · rename_i hy
      cases h
      rw [eq_of_beq hy]
      exact ⟨h2, F⟩
    · obtain ⟨a, b⟩ := GO.fns y e' h
      exact ⟨Nat.le_trans a h1, b⟩, GO.consts, GO.blt⟩
end PL
end
section
set_option Elab.async false
set_option linter.all false
set_option maxRecDepth 100000
set_option maxHeartbeats 4000000
set_option autoImplicit false
/-! Part s: the law is called: from its mirror's answer to the law. -/
namespace PL
open PySem L2 PySem.Spec PyProof.Rows

/-- the law's own def, as the walk needs it -/
structure LawFn (P : Program) (w : World) (K : PySem.W.Frag) (mg : Str → Option Value) (k : Nat) (g : Addr) (fd : FuncData) (x : Str) (fn : Fn) : Prop where
  bind : ∀ (s : Shared) (u : Value), BindsTo s fd ⟨[u], []⟩ [(x, u)]
  run : ∀ base : Heap, K.In base → base.Ns mainGlobals mg → FnD P w K mg base k g fd [x] fn
def om0 : Om := ⟨fun _ => False, []⟩
theorem st_empty {K : PySem.W.Frag} {mg : Str → Option Value} {H : Hp} : St0 K mg om0 H [] :=
  ⟨⟨.nil, (by intro a h; cases h), (by intro a h; cases h), (by intro a h; cases h)⟩, rfl, (by intro l ob a h; simp at h)⟩
theorem ints_rep {K : PySem.W.Frag} {mg : Str → Option Value} {ω : Om} {H : Hp} : ∀ ns : List Int, Reps K mg ω H (ns.map D.int) (ns.map V.int)
  | [] => .nil
  | n :: ns => .cons (.int n) (ints_rep ns)
section
variable {P : Program} {w : World} {K : PySem.W.Frag} {mg mb : Str → Option Value} {k : Nat} {g la : Addr} {fd : FuncData} {x : Str} {fn : Fn} {z : Shared} {us : List Value} {ns : List Int}
/-- the call, where H tracks at most the script -/
theorem call_under {H : Hp} (KX : K.In z.heap) (n1 : z.heap.Ns mainGlobals mg) (n2 : z.heap.Ns builtinsNs mb) (n3 : ∀ y : Str, y ≠ "__name__" → mb y = bootBuiltins y) (nl : z.heap.NoLimit) (ng : z.gens = #[])
    (hs : z.heap.get? la = some { cls := .type "list", data := .seq us.toArray }) (hr : Room k callerA) (L : LawFn P w K mg k g fd x fn)
    (only : ∀ b o, H b = some o → b = la ∧ ∃ ob xs, o = .frz ob (.lst xs)) (apart : ∀ o, H la = some o → K.lookup la = none) (ok : HOk P w H z.heap) (scr : Scr K H la (ns.map V.int)) (ans : ∃ S, fn [.scr (ns.map D.int)] [] = .ok (.bl true) S) :
    codeAny (model P w) callerA (.call (.ref g) ⟨[.ref la], []⟩) (fun r y => r = .ok (.ret (.bool true)) ∧ OldK z.heap y.heap ∧ y.os = z.os ∧ AllBare y.gens) z := by
  -- what is not the script's list stays in the base
  have free : ∀ {b : Addr} {o : Obj}, z.heap.get? b = some o → (∀ its m, o.data ≠ .seq its m) → H b = none := fun {b o} e nd => by
    cases q : H b with
    | none => rfl
    | some ho =>
      obtain ⟨rfl, _⟩ := only b ho q
      rw [hs] at e
      cases e
      exact absurd rfl (nd _ _)
  have ns_ : ∀ {b : Addr} {m : Str → Option Value}, z.heap.Ns b m → (hidT z.heap H).Ns b m := fun {b m} ⟨o, es, ep, e, d, rest⟩ =>
    ⟨o, es, ep, hidT_get e (free e fun its n q => by rw [d] at q; cases q), d, rest⟩
  have kin : K.In (hidT z.heap H) := fun b o e => hidT_get (KX b o e) (by
    cases q : H b with
    | none => rfl
    | some ho =>
      obtain ⟨rfl, _⟩ := only b ho q
      rw [apart ho q] at e
      cases e)
  have md : Mod K mg (hidT z.heap H) := ⟨kin, ns_ n1, ⟨mb, ns_ n2, n3⟩, by
    obtain ⟨mc, c1, c2⟩ := nl
    exact ⟨mc, ns_ c1, c2⟩⟩
  have env : Env0 P w K mg (hidT z.heap H) callerA [] z H := by
    refine ⟨rfl, md, fun b o e => of_hidT e, Nat.le_of_eq (hidT_size _ _), trivial, ?_, ok, .of_eq ng⟩
    intro b hb
    exact absurd (show b ∈ ([] : List Addr) from hb) List.not_mem_nil
  obtain ⟨S', he⟩ := ans
  have sp : spD K mg fn [.ref la] H (fun v _ => v = .bl true) (fun _ _ _ => False) := by
    refine ⟨om0, [.scr (ns.map D.int)], [], st_empty, .cons (.scr scr (ints_rep ns)) .nil, ?_⟩
    rw [he]
    intro v ω' H' _ _ r
    cases r
    rfl
  have call := (L.run (hidT z.heap H) kin (ns_ n1)).run callerA [] z H ⟨[.ref la], []⟩ [.ref la] [.ref la] (fun v _ => v = .bl true) (fun _ _ _ => False) hr rfl env (L.bind z (.ref la)) (.cons rfl .nil) sp
  refine codeAny_mono call fun r y post => ?_
  match r, post with
  | .error e, post =>
    obtain ⟨_, _, _, _, _, _, _, _, _, _, _, _, no⟩ := (show L2.CX P w [] H z (fun _ _ _ => False) e y from post)
    exact no.elim
  | .ok .next, post => exact False.elim post
  | .ok .brk, post => exact False.elim post
  | .ok .cont, post => exact False.elim post
  | .ok (.ret u), post =>
    obtain ⟨v, H', os, bare, un, ok', rv, qv⟩ := post
    have qv : v = .bl true := qv
    subst qv
    cases (show u = Value.bool true from rv)
    refine ⟨rfl, OldK.of_keep fun b o e => ?_, os, bare⟩
    cases q : H b with
    | none => exact un.keep b o e q (fun m => absurd (show b ∈ ([] : List Addr) from m) List.not_mem_nil) List.not_mem_nil
    | some ho =>
      obtain ⟨_, ob, xs, rfl⟩ := only b ho q
      obtain ⟨e1, _⟩ := ok b _ q
      obtain ⟨e2, _⟩ := ok' b _ (un.frzs b ob _ q)
      rw [e] at e1
      cases e1
      exact e2
theorem law_callD (KX : K.In z.heap) (n1 : z.heap.Ns mainGlobals mg) (n2 : z.heap.Ns builtinsNs mb) (n3 : ∀ y : Str, y ≠ "__name__" → mb y = bootBuiltins y) (nl : z.heap.NoLimit) (ng : z.gens = #[])
    (hs : z.heap.get? la = some { cls := .type "list", data := .seq us.toArray }) (hi : IntsAre us ns) (hz : ns.length ≤ sizeLine) (hr : Room k callerA) (L : LawFn P w K mg k g fd x fn) (ans : ∃ S, fn [.scr (ns.map D.int)] [] = .ok (.bl true) S) :
    codeAny (model P w) callerA (.call (.ref g) ⟨[.ref la], []⟩) (fun r y => r = .ok (.ret (.bool true)) ∧ OldK z.heap y.heap ∧ y.os = z.os ∧ AllBare y.gens) z := by
  have vals : Vals (ns.map V.int) us := vals_ints hi
  by_cases hk : ∃ o, K.lookup la = some o
  · obtain ⟨o, hk⟩ := hk
    have e := KX la o hk
    rw [hs] at e
    cases e
    have nil : ∀ b o, (fun _ => none : Hp) b = some o → False := fun b o q => by cases q
    refine call_under (H := fun _ => none) KX n1 n2 n3 nl ng hs hr L (fun b o q => (nil b o q).elim) (fun o q => (nil la o q).elim) (fun b o q => (nil b o q).elim) (.inr ⟨_, us.toArray, _, hk, rfl, rfl, rfl, ?_, by simpa using vals⟩) ans
    rw [List.size_toArray, ← vals.length, List.length_map]
    exact hz
  · have hk0 : K.lookup la = none := by
      cases q : K.lookup la with
      | none => rfl
      | some o => exact absurd ⟨o, q⟩ hk
    let F : HO := .frz { cls := .type "list", data := .seq us.toArray } (.lst (ns.map V.int))
    have at_ : ∀ b o, (fun b => if b = la then some F else none : Hp) b = some o → b = la ∧ o = F := fun b o q => by
      by_cases e : b = la
      · have := (if_pos e).symm.trans q
        cases this
        exact ⟨e, rfl⟩
      · have := (if_neg e).symm.trans q
        cases this
    refine call_under (H := fun b => if b = la then some F else none) KX n1 n2 n3 nl ng hs hr L (fun b o q => ⟨(at_ b o q).1, _, _, (at_ b o q).2⟩) (fun _ _ => hk0) (fun b o q => ?_) (.inl ⟨_, if_pos rfl⟩) ans
    obtain ⟨rfl, rfl⟩ := at_ b o q
    exact ⟨hs, by rw [List.length_map]; exact hz, us, _, vals, hs⟩
end
/-- the walk's goal, from the law's mirror: its answer at every script -/
theorem walk_ofD {l : PySem.W.OpenLaw} {n k : Nat} {q : Program} {loose : List Str} {XP : (Str → Option Value) → Heap → Prop} {YP : World → Heap → Prop} {d : DefRec} {x : Str}
    (hn : l.most = some n) (small : n ≤ sizeLine) (plain : d.params.defaults = []) (hr : Room k callerA)
    (facts : ∀ (w : World) (mg : Str → Option Value) (g : Addr) (h : Heap), YP w h → h.Ns mainGlobals mg → mg d.name = some (.ref g) →
      ∃ (K : PySem.W.Frag) (fd : FuncData) (fn : Fn), K.In h ∧ LawFn l.prog w K mg k g fd x fn ∧ ∀ ns : List Int, ns.length ≤ n → (∀ i ∈ ns, Builtin.Int.intBits i ≤ 1048576) → ∃ S, fn [.scr (ns.map D.int)] [] = .ok (.bl true) S) :
    PySem.W.WalkO q loose XP YP l.row.toRowW d [] (fun f vs => PySem.call f vs) := by
  refine Att.attach_callB hn plain fun w z0 z mg mb g o pm cd doc la us ns Gr Y _ _ _ hm hs hi hl bits hg => ?_
  obtain ⟨K, fd, fn, KX, L, ans⟩ := facts w mg g _ Y Gr.T.g hm
  exact law_callD KX Gr.T.g Gr.T.b Gr.T.builtins Gr.T.nolimit hg hs hi (Nat.le_trans hl small) hr L (ans ns hl bits)
end PL
end
section
set_option Elab.async false
set_option linter.all false
set_option maxRecDepth 100000
set_option maxHeartbeats 4000000
set_option autoImplicit false
/-! Part t: what a law's text needs beside: facts of its top. -/
namespace PL
open PySem L2 PySem.Spec PyProof.Rows C8
section
variable {P : Program} {w : World} {K : PySem.W.Frag} {mg : Str → Option Value} {base : Heap}
/-- a def without defaults -/
theorem fn_factD {x qual : Str} {params : Arguments} {body : List Stmt} {scope : Scope} {kws : List (Str × V)} {f : Addr} {fd : FuncData} {k : Nat} {N ps : List Str} {keep : Bool} {t : St'} {G : Gen} {th : List Str} (F : FunD K x qual params body scope [] kws f fd) (hm : mg x = some (.ref f)) (S : scC N ps scope = true)
    (GO : GOk P w K mg base G k) (hb : ∀ (kV doc pm : Value) (an : Option Addr) (cdv ct : Value) (us : List Value), us.length = ps.length → bindArgs (PySem.W.fnOf x qual params body scope .none kV doc pm an cdv ct) ⟨us, []⟩ = pure (ps.zip us))
    (h : denB ⟨N, scope, scope, G, k, th⟩ body = some t) : FnFact P w K mg base x ⟨mkFn N.length ps.length keep t, [], k + 1⟩ := by
  have b : Binds K fd ps [] := F.bindsN hb
  obtain ⟨oc, od, dV, kV, doc, pm, an, cdv, ct, osl, rfl, lk, hcd, _, _⟩ := F.ex
  exact fn_fact lk hcd F.kp hm S GO b .nil (fun _ _ => .nil) h
/-- the same as FnD alone -/
theorem fn_D {x qual : Str} {params : Arguments} {body : List Stmt} {scope : Scope} {kws : List (Str × V)} {f : Addr} {fd : FuncData} {k : Nat} {N ps : List Str} {keep : Bool} {t : St'} {G : Gen} {th : List Str} (F : FunD K x qual params body scope [] kws f fd) (S : scC N ps scope = true)
    (GO : GOk P w K mg base G k) (h : denB ⟨N, scope, scope, G, k, th⟩ body = some t) : FnD P w K mg base (k + 1) f fd ps (mkFn N.length ps.length keep t) := by
  have Sc := fnScope_by S
  obtain ⟨oc, od, dV, kV, doc, pm, an, cdv, ct, osl, rfl, lk, hcd, _, _⟩ := F.ex
  refine fnd_of lk hcd Sc fun A outer s H E hr hg tk pw => ?_
  have gd : Good (cxOf (L2.CX P w) P w K mg base N qual scope f cdv A outer s H E) (fun c d _ H => E c d H) ⟨N, scope, scope, G, k, th⟩ :=
    { hN := rfl, nd := Sc.nd, hsc := rfl, calm := rfl, room := hr, guards := hg, tk := tk, cell := fun _ _ => rfl, G := GO }
  exact denB_ok ⟨gd, pw, Sc.kind⟩ h
theorem GOk.base0 {cs : List (Str × D)} {k : Nat} (hc : ∀ x d, cs.lookup x = some d → ∃ u v, mg x = some u ∧ RelV v u ∧ Flat d v) (hb : ∀ x ∈ bltNames, mg x = none) : GOk P w K mg base ⟨[], cs⟩ k :=
  ⟨fun x e h => (by cases h), hc, hb⟩
end
end PL
end
section
set_option Elab.async false
set_option linter.all false
set_option maxRecDepth 100000
set_option maxHeartbeats 4000000
set_option autoImplicit false
/-! Part u: plain words about mirrors: no program in sight. -/
namespace PL
open PySem

/-! ### no references, none from n on -/
mutual
theorem low_mono {n m : Nat} (h : n ≤ m) : ∀ {d : D}, low n d = true → low m d = true
  | .ref l, q => by simp only [low, decide_eq_true_eq] at q ⊢; omega
  | .tup xs, q => by simp only [low] at q ⊢; exact lowL_mono h q
  | .lst xs, q => by simp only [low] at q ⊢; exact lowL_mono h q
  | .scr xs, q => by simp only [low] at q ⊢; exact lowL_mono h q
  | .dct _ xs, q => by simp only [low] at q ⊢; exact lowK_mono h q
  | .ins _ xs, q => by simp only [low] at q ⊢; exact lowF_mono h q
  | .non, _ => rfl
  | .bl _, _ => rfl
  | .int _, _ => rfl
  | .str _, _ => rfl
  | .glo _, _ => rfl
  | .ty _, _ => rfl
theorem lowL_mono {n m : Nat} (h : n ≤ m) : ∀ {d : List D}, lowL n d = true → lowL m d = true
  | [], _ => rfl
  | d :: ds, q => by simp only [lowL, Bool.and_eq_true] at q ⊢; exact ⟨low_mono h q.1, lowL_mono h q.2⟩
theorem lowK_mono {n m : Nat} (h : n ≤ m) : ∀ {d : List (D × D)}, lowK n d = true → lowK m d = true
  | [], _ => rfl
  | (_, d) :: ds, q => by simp only [lowK, Bool.and_eq_true] at q ⊢; exact ⟨low_mono h q.1, lowK_mono h q.2⟩
theorem lowF_mono {n m : Nat} (h : n ≤ m) : ∀ {d : List (Str × D)}, lowF n d = true → lowF m d = true
  | [], _ => rfl
  | (_, d) :: ds, q => by simp only [lowF, Bool.and_eq_true] at q ⊢; exact ⟨low_mono h q.1, lowF_mono h q.2⟩
end
theorem lowL_iff {n : Nat} : ∀ {ds : List D}, lowL n ds = true ↔ ∀ d ∈ ds, low n d = true
  | [] => by simp [lowL]
  | d :: ds => by simp [lowL, lowL_iff (ds := ds)]
theorem lowL_map {α : Type} {n : Nat} {f : α → D} {xs : List α} (h : ∀ x ∈ xs, low n (f x) = true) : lowL n (xs.map f) = true := lowL_iff.mpr fun d hd => by
  obtain ⟨x, hx, rfl⟩ := List.mem_map.mp hd
  exact h x hx
/-- a store whose objects name objects of it alone -/
def WF (S : Sto) : Prop := lowS S.length S = true
theorem lowS_iff {n : Nat} : ∀ {S : Sto}, lowS n S = true ↔ ∀ ob ∈ S, lowOb n ob = true
  | [] => by simp [lowS]
  | d :: ds => by simp [lowS, lowS_iff (S := ds)]
theorem lowOb_mono {n m : Nat} (h : n ≤ m) {ob : Ob} (q : lowOb n ob = true) : lowOb m ob = true := by
  cases ob with
  | lst xs => exact lowL_mono h q
  | dct t xs => exact lowK_mono h q
  | ins c xs => exact lowF_mono h q
theorem WF.put {S : Sto} {l : Nat} {ob : Ob} (w : WF S) (h : lowOb S.length ob = true) : WF (S.set l ob) := by
  unfold WF
  rw [List.length_set]
  refine lowS_iff.mpr fun o ho => ?_
  rcases List.mem_or_eq_of_mem_set ho with q | q
  · exact lowS_iff.mp w o q
  · subst q; exact h
theorem WF.push {S : Sto} {ob : Ob} (w : WF S) (h : lowOb S.length ob = true) : WF (S ++ [ob]) := by
  unfold WF
  rw [List.length_append]
  refine lowS_iff.mpr fun o ho => ?_
  rcases List.mem_append.mp ho with q | q
  · exact lowOb_mono (by simp) (lowS_iff.mp w o q)
  · rw [List.mem_singleton.mp q]; exact lowOb_mono (by simp) h
theorem WF.nil : WF [] := rfl

/-! ### a def's end -/
theorem frz_low {S : Sto} {n : Nat} {d : D} (k : Nat) (h : low n d = true) : frz S n k d = some d := by
  cases k with
  | zero => unfold frz; rw [if_pos h]
  | succ k => unfold frz; rw [if_pos h]
theorem settle_low {S : Sto} {n : Nat} (h : lowS n (S.take n) = true) : settle S n = some (S.take n) := by
  unfold settle; rw [if_pos h]
/-- the store S1 behind a def that was entered at S: the first objects may have been written -/
theorem fn_ret {n m : Nat} {t : St'} {ds : List D} {S S1 S2 : Sto} {d : D} (hm : ds.length = m) (ht : t (startR n ds) S = .rt d S1) (hd : low S.length d = true) (h2 : S1.take S.length = S2) (hw : lowS S.length S2 = true) : mkFn n m false t ds S = .ok d S2 := by
  unfold mkFn
  rw [if_pos hm, ht]
  show endD false S d S1 = _
  unfold endD
  rw [if_neg Bool.false_ne_true, frz_low 40 hd, settle_low (by rw [h2]; exact hw), h2]
theorem fn_nx {n m : Nat} {t : St'} {ds : List D} {S S1 S2 : Sto} {ρ : Fr} (hm : ds.length = m) (ht : t (startR n ds) S = .nx ρ S1) (h2 : S1.take S.length = S2) (hw : lowS S.length S2 = true) : mkFn n m false t ds S = .ok .non S2 := by
  unfold mkFn
  rw [if_pos hm, ht]
  show endD false S .non S1 = _
  unfold endD
  rw [if_neg Bool.false_ne_true, frz_low 40 rfl, settle_low (by rw [h2]; exact hw), h2]
/-- a def that touches nothing -/
theorem fn_pure {n m : Nat} {t : St'} {ds : List D} {S : Sto} {d : D} (w : WF S) (hm : ds.length = m) (ht : t (startR n ds) S = .rt d S) (hd : low S.length d = true) : mkFn n m false t ds S = .ok d S :=
  fn_ret hm ht hd (List.take_length ..) w
theorem fn_pureN {n m : Nat} {t : St'} {ds : List D} {S : Sto} {ρ : Fr} (w : WF S) (hm : ds.length = m) (ht : t (startR n ds) S = .nx ρ S) : mkFn n m false t ds S = .ok .non S :=
  fn_nx hm ht (List.take_length ..) w
theorem fn_keep {n m : Nat} {t : St'} {ds : List D} {S S1 : Sto} {d : D} (hm : ds.length = m) (ht : t (startR n ds) S = .rt d S1) : mkFn n m true t ds S = .ok d S1 := by
  unfold mkFn
  rw [if_pos hm, ht]
  rfl

/-! ### what is walked, where nobody writes it -/
def itemsOf : Src → Option (List D)
  | .one (.fix xs) => some xs
  | .enum (.fix xs) => some (xs.zipIdx.map fun p => .tup [.int (p.2 : Int), p.1])
  | .zip (.fix xs) (.fix ys) => some ((xs.zip ys).map fun p => .tup [p.1, p.2])
  | _ => none
theorem item_at {s : Src} {its : List D} (h : itemsOf s = some its) (i : Nat) (S : Sto) : itemAt s i S = some its[i]? := by
  unfold itemsOf at h
  split at h
  · cases h; rfl
  · rename_i xs
    cases h
    show ((some xs[i]?).map fun o => o.map fun d => D.tup [.int i, d]) = _
    rw [List.getElem?_map, List.getElem?_zipIdx]
    cases xs[i]? <;> simp
  · rename_i xs ys
    cases h
    show (match some xs[i]?, some ys[i]? with
      | some (some d), some (some e) => some (some (D.tup [d, e]))
      | some none, some _ => some none
      | some _, some none => some none
      | _, _ => none) = _
    have e : (xs.zip ys)[i]? = match xs[i]?, ys[i]? with
      | some a, some b => some (a, b)
      | _, _ => none := by
      show (List.zipWith Prod.mk xs ys)[i]? = _
      rw [List.getElem?_zipWith]
      cases xs[i]? <;> cases ys[i]? <;> rfl
    rw [List.getElem?_map, e]
    cases xs[i]? <;> cases ys[i]? <;> rfl
  · cases h
theorem fuel_of' {s : Src} {its : List D} (h : itemsOf s = some its) : its.length < srcFuel s := by
  unfold itemsOf at h
  split at h
  · cases h; show _ < _ + 1; omega
  · cases h; show _ < _ + 1; simp
  · cases h; show _ < _ + 1; simp; omega
  · cases h
/-- a comprehension whose parts touch nothing -/
theorem lc_pure {T : Tg} {c : EvB} {f : Ev} {s : Src} {its : List D} {ρ : Fr} {S : Sto} {p : D → Bool} {g : D → D} (hi : itemsOf s = some its)
    (h : ∀ d ∈ its, ∃ ρ1, setT T d ρ = some ρ1 ∧ c ρ1 S = .ok (p d) S ∧ (p d = true → f ρ1 S = .ok (g d) S)) : ∀ (n i : Nat) (acc : List D), its.length - i < n → acc.length ≤ i → its.length ≤ sizeLine →
      runLC T c f s n i ρ acc S = .ok (acc ++ ((its.drop i).filter p).map g) S := by
  intro n
  induction n with
  | zero => intro i acc h0; omega
  | succ n ih =>
    intro i acc h0 h1 h2
    unfold runLC
    rw [item_at hi]
    by_cases hlt : i < its.length
    · have e : its[i]? = some its[i] := List.getElem?_eq_getElem hlt
      have ed : its.drop i = its[i] :: its.drop (i + 1) := List.drop_eq_getElem_cons hlt
      rw [e]
      obtain ⟨ρ1, e1, e2, e3⟩ := h its[i] (List.getElem_mem hlt)
      simp only [e1, e2]
      cases hp : p its[i] with
      | true =>
        simp only [e3 hp]
        have hl : lenFits (acc.length + 1) = true := by unfold lenFits; exact decide_eq_true (by omega)
        rw [if_pos hl, ih (i + 1) _ (by omega) (by simp; omega) h2, ed, List.filter_cons_of_pos hp]
        simp
      | false =>
        simp only
        rw [ih (i + 1) _ (by omega) (by omega) h2, ed, List.filter_cons_of_neg (by rw [hp]; simp)]
    · have e : its[i]? = none := List.getElem?_eq_none (by omega)
      rw [e, List.drop_eq_nil_of_le (by omega)]
      simp
theorem fuel_of {s : Src} {its : List D} (h : itemsOf s = some its) : its.length < srcFuel s := by
  unfold itemsOf at h
  split at h
  · cases h; show _ < _ + 1; omega
  · cases h; show _ < _ + 1; simp
  · cases h; show _ < _ + 1; simp; omega
  · cases h
/-- the whole of it -/
theorem lLC_pure {T : Tg} {it : EvS} {c : EvB} {f : Ev} {vs : List Nat} {s : Src} {its : List D} {ρ : Fr} {S : Sto} (p : D → Bool) (g : D → D) (hit : it ρ S = .ok s S) (hi : itemsOf s = some its) (hl : its.length ≤ sizeLine)
    (h : ∀ d ∈ its, ∃ ρ1, setT T d (wipeR ρ vs) = some ρ1 ∧ c ρ1 S = .ok (p d) S ∧ (p d = true → f ρ1 S = .ok (g d) S)) : lLC T it c f vs ρ S = .ok ((its.filter p).map g) S := by
  unfold lLC
  rw [hit]
  show runLC T c f s (srcFuel s) 0 (wipeR ρ vs) [] S = _
  rw [lc_pure hi h (srcFuel s) 0 [] (by have := fuel_of hi; omega) (Nat.le_refl _) hl]
  simp
/-- the same, over items that are written by e -/
theorem lc_map {α : Type} {T : Tg} {c : EvB} {f : Ev} {s : Src} {xs : List α} {e : α → D} {ρ : Fr} {S : Sto} {p : α → Bool} {g : α → D} (hi : itemsOf s = some (xs.map e))
    (h : ∀ x ∈ xs, ∃ ρ1, setT T (e x) ρ = some ρ1 ∧ c ρ1 S = .ok (p x) S ∧ (p x = true → f ρ1 S = .ok (g x) S)) : ∀ (n i : Nat) (acc : List D), xs.length - i < n → acc.length ≤ i → xs.length ≤ sizeLine →
      runLC T c f s n i ρ acc S = .ok (acc ++ ((xs.drop i).filter p).map g) S := by
  intro n
  induction n with
  | zero => intro i acc h0; omega
  | succ n ih =>
    intro i acc h0 h1 h2
    unfold runLC
    rw [item_at hi]
    by_cases hlt : i < xs.length
    · have e1 : (xs.map e)[i]? = some (e xs[i]) := by rw [List.getElem?_map, List.getElem?_eq_getElem hlt]; rfl
      have ed : xs.drop i = xs[i] :: xs.drop (i + 1) := List.drop_eq_getElem_cons hlt
      rw [e1]
      obtain ⟨ρ1, e1, e2, e3⟩ := h xs[i] (List.getElem_mem hlt)
      simp only [e1, e2]
      cases hp : p xs[i] with
      | true =>
        simp only [e3 hp]
        have hl : lenFits (acc.length + 1) = true := by unfold lenFits; exact decide_eq_true (by omega)
        rw [if_pos hl, ih (i + 1) _ (by omega) (by simp; omega) h2, ed, List.filter_cons_of_pos hp]
        simp
      | false =>
        simp only
        rw [ih (i + 1) _ (by omega) (by omega) h2, ed, List.filter_cons_of_neg (by rw [hp]; simp)]
    · have e1 : (xs.map e)[i]? = none := List.getElem?_eq_none (by simp; omega)
      rw [e1, List.drop_eq_nil_of_le (by omega)]
      simp
theorem lLC_map {α : Type} {T : Tg} {it : EvS} {c : EvB} {f : Ev} {vs : List Nat} {s : Src} {xs : List α} {e : α → D} {ρ : Fr} {S : Sto} (p : α → Bool) (g : α → D) (hit : it ρ S = .ok s S) (hi : itemsOf s = some (xs.map e)) (hl : xs.length ≤ 10000)
    (h : ∀ x ∈ xs, ∃ ρ1, setT T (e x) (wipeR ρ vs) = some ρ1 ∧ c ρ1 S = .ok (p x) S ∧ (p x = true → f ρ1 S = .ok (g x) S)) : lLC T it c f vs ρ S = .ok ((xs.filter p).map g) S := by
  unfold lLC
  rw [hit]
  show runLC T c f s (srcFuel s) 0 (wipeR ρ vs) [] S = _
  have hf := fuel_of' hi
  rw [List.length_map] at hf
  rw [lc_map hi h (srcFuel s) 0 [] (by omega) (Nat.le_refl _) (Nat.le_trans hl (by decide))]
  simp
/-- without a test -/
theorem lLC_all {α : Type} {T : Tg} {it : EvS} {f : Ev} {vs : List Nat} {s : Src} {xs : List α} {e : α → D} {ρ : Fr} {S : Sto} (g : α → D) (hit : it ρ S = .ok s S) (hi : itemsOf s = some (xs.map e)) (hl : xs.length ≤ 10000)
    (h : ∀ x ∈ xs, ∃ ρ1, setT T (e x) (wipeR ρ vs) = some ρ1 ∧ f ρ1 S = .ok (g x) S) : lLC T it bYes f vs ρ S = .ok (xs.map g) S := by
  rw [lLC_map (fun _ => true) g hit hi hl fun x hx => ?_]
  · rw [List.filter_eq_self.mpr fun _ _ => rfl]
  · obtain ⟨ρ1, h1, h2⟩ := h x hx
    exact ⟨ρ1, h1, rfl, fun _ => h2⟩
/-- a comprehension whose parts write, by an invariant -/
theorem lc_inv {T : Tg} {c : EvB} {f : Ev} {s : Src} {its : List D} {ρ : Fr} {Inv : Nat → List D → Sto → Prop} (hi : itemsOf s = some its) (hl : its.length ≤ sizeLine)
    (h : ∀ (i : Nat) (d : D) (acc : List D) (S : Sto), its[i]? = some d → acc.length ≤ i → Inv i acc S → ∃ ρ1 b S1, setT T d ρ = some ρ1 ∧ c ρ1 S = .ok b S1 ∧ (b = false → Inv (i + 1) acc S1) ∧ (b = true → ∃ y S2, f ρ1 S1 = .ok y S2 ∧ Inv (i + 1) (acc ++ [y]) S2)) :
    ∀ (n i : Nat) (acc : List D) (S : Sto), its.length - i < n → acc.length ≤ i → i ≤ its.length → Inv i acc S → ∃ out S', runLC T c f s n i ρ acc S = .ok out S' ∧ Inv its.length out S' ∧ out.length ≤ its.length := by
  intro n
  induction n with
  | zero => intro i acc S h0; omega
  | succ n ih =>
    intro i acc S h0 h1 h2 hI
    unfold runLC
    rw [item_at hi]
    by_cases hlt : i < its.length
    · have e : its[i]? = some its[i] := List.getElem?_eq_getElem hlt
      rw [e]
      obtain ⟨ρ1, b, S1, e1, e2, e3, e4⟩ := h i _ acc S e h1 hI
      simp only [e1, e2]
      cases b with
      | true =>
        obtain ⟨y, S2, e5, e6⟩ := e4 rfl
        simp only [e5]
        have hlf : lenFits (acc.length + 1) = true := by unfold lenFits; exact decide_eq_true (by omega)
        rw [if_pos hlf]
        exact ih (i + 1) _ S2 (by omega) (by simp; omega) hlt e6
      | false => exact ih (i + 1) _ S1 (by omega) (by omega) hlt (e3 rfl)
    · have e : its[i]? = none := List.getElem?_eq_none (by omega)
      rw [e]
      have : i = its.length := by omega
      subst this
      exact ⟨acc, S, rfl, hI, h1⟩
theorem lLC_inv {T : Tg} {it : EvS} {c : EvB} {f : Ev} {vs : List Nat} {s : Src} {its : List D} {ρ : Fr} {S S0 : Sto} (Inv : Nat → List D → Sto → Prop) (hit : it ρ S = .ok s S0) (hi : itemsOf s = some its) (hl : its.length ≤ sizeLine) (h0 : Inv 0 [] S0)
    (h : ∀ (i : Nat) (d : D) (acc : List D) (S : Sto), its[i]? = some d → acc.length ≤ i → Inv i acc S → ∃ ρ1 b S1, setT T d (wipeR ρ vs) = some ρ1 ∧ c ρ1 S = .ok b S1 ∧ (b = false → Inv (i + 1) acc S1) ∧ (b = true → ∃ y S2, f ρ1 S1 = .ok y S2 ∧ Inv (i + 1) (acc ++ [y]) S2)) :
    ∃ out S', lLC T it c f vs ρ S = .ok out S' ∧ Inv its.length out S' ∧ out.length ≤ its.length := by
  unfold lLC
  rw [hit]
  exact lc_inv hi hl h (srcFuel s) 0 [] S0 (by have := fuel_of hi; omega) (Nat.le_refl _) (Nat.zero_le _) h0
/-- a loop, by an invariant; it may be left with r -/
theorem for_inv {T : Tg} {b : St'} {s : Src} {its : List D} {Inv : Nat → Fr → Sto → Prop} {Out : Fl → Prop} (hi : itemsOf s = some its)
    (h : ∀ (i : Nat) (d : D) (ρ : Fr) (S : Sto), its[i]? = some d → Inv i ρ S → ∃ ρ1, setT T d ρ = some ρ1 ∧ match b ρ1 S with
      | .nx ρ2 S2 => Inv (i + 1) ρ2 S2
      | .ct ρ2 S2 => Inv (i + 1) ρ2 S2
      | .bk ρ2 S2 => Out (.nx ρ2 S2)
      | r => Out r) (hd : ∀ ρ S, Inv its.length ρ S → Out (.nx ρ S)) :
    ∀ (n i : Nat) (ρ : Fr) (S : Sto), its.length - i < n → i ≤ its.length → Inv i ρ S → Out (runFor T b s n i ρ S) := by
  intro n
  induction n with
  | zero => intro i ρ S h0; omega
  | succ n ih =>
    intro i ρ S h0 h2 hI
    unfold runFor
    rw [item_at hi]
    by_cases hlt : i < its.length
    · have e : its[i]? = some its[i] := List.getElem?_eq_getElem hlt
      rw [e]
      obtain ⟨ρ1, e1, e2⟩ := h i _ ρ S e hI
      simp only [e1, orBad]
      cases hb : b ρ1 S with
      | nx ρ2 S2 => rw [hb] at e2; exact ih (i + 1) ρ2 S2 (by omega) hlt e2
      | ct ρ2 S2 => rw [hb] at e2; exact ih (i + 1) ρ2 S2 (by omega) hlt e2
      | bk ρ2 S2 => rw [hb] at e2; exact e2
      | rt d S2 => rw [hb] at e2; exact e2
      | ex x ρ2 S2 => rw [hb] at e2; exact e2
      | bad => rw [hb] at e2; exact e2
    · have e : its[i]? = none := List.getElem?_eq_none (by omega)
      rw [e]
      have : i = its.length := by omega
      subst this
      exact hd ρ S hI
theorem sFor_inv {T : Tg} {it : EvS} {b : St'} {s : Src} {its : List D} {ρ : Fr} {S S0 : Sto} (Inv : Nat → Fr → Sto → Prop) (Out : Fl → Prop) (hit : it ρ S = .ok s S0) (hi : itemsOf s = some its) (h0 : Inv 0 ρ S0)
    (h : ∀ (i : Nat) (d : D) (ρ : Fr) (S : Sto), its[i]? = some d → Inv i ρ S → ∃ ρ1, setT T d ρ = some ρ1 ∧ match b ρ1 S with
      | .nx ρ2 S2 => Inv (i + 1) ρ2 S2
      | .ct ρ2 S2 => Inv (i + 1) ρ2 S2
      | .bk ρ2 S2 => Out (.nx ρ2 S2)
      | r => Out r) (hd : ∀ ρ S, Inv its.length ρ S → Out (.nx ρ S)) : Out (sFor T it b ρ S) := by
  unfold sFor
  rw [hit]
  exact for_inv hi h hd (srcFuel s) 0 ρ S0 (by have := fuel_of hi; omega) (Nat.zero_le _) h0

/-- a loop over what the store may hold, by an invariant that tells its items -/
theorem for_at {T : Tg} {b : St'} {s : Src} {its : List D} {Inv : Nat → Fr → Sto → Prop} {Out : Fl → Prop} (hi : ∀ i ρ S, i ≤ its.length → Inv i ρ S → itemAt s i S = some its[i]?)
    (h : ∀ (i : Nat) (d : D) (ρ : Fr) (S : Sto), its[i]? = some d → Inv i ρ S → ∃ ρ1, setT T d ρ = some ρ1 ∧ match b ρ1 S with
      | .nx ρ2 S2 => Inv (i + 1) ρ2 S2
      | .ct ρ2 S2 => Inv (i + 1) ρ2 S2
      | .bk ρ2 S2 => Out (.nx ρ2 S2)
      | r => Out r) (hd : ∀ ρ S, Inv its.length ρ S → Out (.nx ρ S)) :
    ∀ (n i : Nat) (ρ : Fr) (S : Sto), its.length - i < n → i ≤ its.length → Inv i ρ S → Out (runFor T b s n i ρ S) := by
  intro n
  induction n with
  | zero => intro i ρ S h0; omega
  | succ n ih =>
    intro i ρ S h0 h2 hI
    unfold runFor
    rw [hi i ρ S h2 hI]
    by_cases hlt : i < its.length
    · have e : its[i]? = some its[i] := List.getElem?_eq_getElem hlt
      rw [e]
      obtain ⟨ρ1, e1, e2⟩ := h i _ ρ S e hI
      simp only [e1, orBad]
      cases hb : b ρ1 S with
      | nx ρ2 S2 => rw [hb] at e2; exact ih (i + 1) ρ2 S2 (by omega) hlt e2
      | ct ρ2 S2 => rw [hb] at e2; exact ih (i + 1) ρ2 S2 (by omega) hlt e2
      | bk ρ2 S2 => rw [hb] at e2; exact e2
      | rt d S2 => rw [hb] at e2; exact e2
      | ex x ρ2 S2 => rw [hb] at e2; exact e2
      | bad => rw [hb] at e2; exact e2
    · have e : its[i]? = none := List.getElem?_eq_none (by omega)
      rw [e]
      have : i = its.length := by omega
      subst this
      exact hd ρ S hI
theorem sFor_at {T : Tg} {it : EvS} {b : St'} {s : Src} {its : List D} {ρ : Fr} {S S0 : Sto} (Inv : Nat → Fr → Sto → Prop) (Out : Fl → Prop) (hit : it ρ S = .ok s S0) (hf : its.length < srcFuel s) (hi : ∀ i ρ S, i ≤ its.length → Inv i ρ S → itemAt s i S = some its[i]?) (h0 : Inv 0 ρ S0)
    (h : ∀ (i : Nat) (d : D) (ρ : Fr) (S : Sto), its[i]? = some d → Inv i ρ S → ∃ ρ1, setT T d ρ = some ρ1 ∧ match b ρ1 S with
      | .nx ρ2 S2 => Inv (i + 1) ρ2 S2
      | .ct ρ2 S2 => Inv (i + 1) ρ2 S2
      | .bk ρ2 S2 => Out (.nx ρ2 S2)
      | r => Out r) (hd : ∀ ρ S, Inv its.length ρ S → Out (.nx ρ S)) : Out (sFor T it b ρ S) := by
  unfold sFor
  rw [hit]
  exact for_at hi h hd (srcFuel s) 0 ρ S0 (by omega) (Nat.zero_le _) h0

/-! ### one step after another -/
section
variable {ρ : Fr} {S S1 S2 : Sto} {f g h : Ev} {F : EvL} {A B : EvB} {d e : D} {t u : St'}
theorem x_var {i : Nat} (hi : ρ[i]? = some (some d)) : eVar i ρ S = .ok d S := by unfold eVar; rw [hi]
theorem x_nil : aNil ρ S = .ok [] S := rfl
theorem x_cons {ds : List D} (h1 : f ρ S = .ok d S1) (h2 : F ρ S1 = .ok ds S2) : aCons f F ρ S = .ok (d :: ds) S2 := by unfold aCons; rw [h1]; show (F ρ S1).bind _ = _; rw [h2]; rfl
theorem x_call {fn : Fn} {ds : List D} (h1 : F ρ S = .ok ds S1) (h2 : fn ds S1 = .ok d S2) : eCallD fn [] F ρ S = .ok d S2 := by unfold eCallD; rw [h1]; show fn (ds ++ []) S1 = _; rw [List.append_nil, h2]
theorem x_bf {fn : List D → Sto → Res D} {ds : List D} (h1 : F ρ S = .ok ds S1) (h2 : fn ds S1 = .ok d S2) : eBf fn F ρ S = .ok d S2 := by unfold eBf; rw [h1]; show (match fn ds S1 with | .ok d S2 => Res.ok d S2 | _ => .bad) = _; rw [h2]
theorem x_bfN {fn : List D → Sto → Res Ob} {ds : List D} {ob : Ob} (h1 : F ρ S = .ok ds S1) (h2 : fn ds S1 = .ok ob S2) : nBf fn F ρ S = .ok ob S2 := by unfold nBf; rw [h1]; show (match fn ds S1 with | .ok d S2 => Res.ok d S2 | _ => .bad) = _; rw [h2]
theorem x_fix {f : EvN} {ob : Ob} (h1 : f ρ S = .ok ob S1) : eFixN f ρ S = .ok (obD ob) S1 := by unfold eFixN; rw [h1]; rfl
theorem x_thaw {f : EvN} {ob : Ob} (h1 : f ρ S = .ok ob S1) : eThaw f ρ S = .ok (.ref S1.length) (S1 ++ [ob]) := by unfold eThaw; rw [h1]; rfl
theorem x_nLst {ds : List D} (h1 : F ρ S = .ok ds S1) : nLst F ρ S = .ok (.lst ds) S1 := by unfold nLst; rw [h1]; rfl
theorem x_lLst {ds : List D} (h1 : F ρ S = .ok ds S1) (hl : ds.length ≤ sizeLine) : lLst F ρ S = .ok ds S1 := by unfold lLst; rw [h1]; show (if lenFits ds.length = true then _ else _) = _; rw [if_pos (by unfold lenFits; exact decide_eq_true hl)]
theorem x_tup {ds : List D} (h1 : F ρ S = .ok ds S1) (hl : ds.length ≤ sizeLine) : eTup F ρ S = .ok (.tup ds) S1 := by unfold eTup; rw [h1]; show (if lenFits ds.length = true then _ else _) = _; rw [if_pos (by unfold lenFits; exact decide_eq_true hl)]
theorem x_bin {op : Operator} (h1 : f ρ S = .ok d S1) (h2 : g ρ S1 = .ok e S2) : eBin op f g ρ S = binD op d e S2 := by unfold eBin; rw [h1]; show (g ρ S1).bind _ = _; rw [h2]; rfl
theorem x_cmp {op : CmpOp} (h1 : f ρ S = .ok d S1) (h2 : g ρ S1 = .ok e S2) : eCmp op f g ρ S = cmpD op d e S2 := by unfold eCmp; rw [h1]; show (g ρ S1).bind _ = _; rw [h2]; rfl
theorem y_cmp {op : CmpOp} (h1 : f ρ S = .ok d S1) (h2 : g ρ S1 = .ok e S2) : bCmp op f g ρ S = cmpR op d e S2 := by unfold bCmp; rw [h1]; show (g ρ S1).bind _ = _; rw [h2]; rfl
theorem x_ix (h1 : f ρ S = .ok d S1) (h2 : g ρ S1 = .ok e S2) : eIx f g ρ S = ixD d e S2 := by unfold eIx; rw [h1]; show (g ρ S1).bind _ = _; rw [h2]; rfl
theorem x_and {b : Bool} (h1 : f ρ S = .ok (.bl b) S1) (h2 : b = true → g ρ S1 = .ok d S2) (h3 : b = false → d = .bl false ∧ S2 = S1) : eAnd f g ρ S = .ok d S2 := by
  unfold eAnd
  rw [h1]
  show (if b = true then g ρ S1 else .ok (.bl false) S1) = _
  cases b with
  | true => rw [if_pos rfl, h2 rfl]
  | false => obtain ⟨rfl, rfl⟩ := h3 rfl; rw [if_neg Bool.false_ne_true]
theorem y_val {b : Bool} (h1 : f ρ S = .ok (.bl b) S1) : bVal f ρ S = .ok b S1 := by unfold bVal; rw [h1]; rfl
theorem y_not {b : Bool} (h1 : A ρ S = .ok b S1) : bNot A ρ S = .ok (!b) S1 := by unfold bNot; rw [h1]; rfl
theorem x_not {b : Bool} (h1 : f ρ S = .ok (.bl b) S1) : eNot f ρ S = .ok (.bl (!b)) S1 := by unfold eNot; rw [h1]; rfl
theorem s_ret (h1 : f ρ S = .ok d S1) : sRet f ρ S = .rt d S1 := by unfold sRet; rw [h1]; rfl
theorem s_expr (h1 : f ρ S = .ok d S1) : sExpr f ρ S = .nx ρ S1 := by unfold sExpr; rw [h1]; rfl
theorem s_seq {ρ1 : Fr} (h1 : t ρ S = .nx ρ1 S1) : sSeq t u ρ S = u ρ1 S1 := by unfold sSeq; rw [h1]
theorem s_set {i : Nat} (h1 : f ρ S = .ok d S1) : sSet (.nm i) f ρ S = .nx (ρ.set i (some d)) S1 := by unfold sSet; rw [h1]; rfl
theorem s_if {b : Bool} (h1 : A ρ S = .ok b S1) : sIf A t u ρ S = if b = true then t ρ S1 else u ρ S1 := by unfold sIf; rw [h1]; rfl
end
end PL
end
section
set_option Elab.async false
set_option linter.all false
set_option maxRecDepth 100000
set_option maxHeartbeats 4000000
set_option autoImplicit false
/-! meetwatch_k39_news_tables_met: the mirrors of its defs (printed by gen_law.py). -/
open PySem PL
/-- is_integer(value) -/
def M.m_is_integer : St' := (sRet (eAnd (eBf isiD (aCons (eVar 0) (aCons (eC (.ty "int")) aNil))) (eNot (eBf isiD (aCons (eVar 0) (aCons (eC (.ty "bool")) aNil))))))
def M.f_is_integer : Fn := mkFn 1 1 false M.m_is_integer
/-- is_between(value, low, high) -/
def M.m_is_between : St' := (sRet (eAnd (eCallD M.f_is_integer [] (aCons (eVar 0) aNil)) (eChain .LtE .LtE (eVar 1) (eVar 0) (eVar 2))))
def M.f_is_between : Fn := mkFn 3 3 false M.m_is_between
/-- is_name(value, sign) -/
def M.m_is_name : St' := (sRet (eAnd (eBf isiD (aCons (eVar 0) (aCons (eC (.ty "str")) aNil))) (eAnd (eChain .LtE .LtE (eC (.int 1)) (eBf lenD (aCons (eVar 0) aNil)) (eC (.int 8))) (eBf allD (aCons (eFixN (nLst (lLC (.nm 1) (iOf (eVar 0)) bYes (eCmp .In (eVar 1) (eC (.str "abcdefghijklmnopqrstuvwxyz"))) [1]))) aNil)))))
def M.f_is_name : Fn := mkFn 2 1 false M.m_is_name
/-- is_ascending(items, one, other) -/
def M.m_is_ascending : St' := (sRet (eBf allD (aCons (eFixN (nLst (lLC (.tp [(.nm 1), (.nm 2)]) (iZip2 (eVar 0) (eSl (eVar 0) (oSome (eC (.int 1))) oNone)) bYes (eCmp .Lt (eVar 1) (eVar 2)) [1, 2]))) aNil)))
def M.f_is_ascending : Fn := mkFn 3 1 false M.m_is_ascending
/-- are_processes(many, value, process) -/
def M.m_are_processes : St' := (sRet (eAnd (eBf isiD (aCons (eVar 1) (aCons (eC (.ty "tuple")) aNil))) (eAnd (eCmp .NotEq (eVar 1) (eTup aNil)) (eBf allD (aCons (eFixN (nLst (lLC (.nm 2) (iOf (eVar 1)) bYes (eCallD M.f_is_between [] (aCons (eVar 2) (aCons (eC (.int 0)) (aCons (eBin .Sub (eVar 0) (eC (.int 1))) aNil)))) [2]))) aNil)))))
def M.f_are_processes : Fn := mkFn 3 2 false M.m_are_processes
/-- is_set_of(many, value) -/
def M.m_is_set_of : St' := (sRet (eAnd (eCallD M.f_are_processes [] (aCons (eVar 0) (aCons (eVar 1) aNil))) (eCallD M.f_is_ascending [] (aCons (eVar 1) aNil))))
def M.f_is_set_of : Fn := mkFn 2 2 false M.m_is_set_of
/-- is_row(many, value) -/
def M.m_is_row : St' := (sRet (eAnd (eBf isiD (aCons (eVar 1) (aCons (eC (.ty "tuple")) aNil))) (eAnd (eCmp .Eq (eBf lenD (aCons (eVar 1) aNil)) (eC (.int 2))) (eAnd (eCallD M.f_is_name [] (aCons (eIx (eVar 1) (eC (.int 0))) aNil)) (eCallD M.f_is_set_of [] (aCons (eVar 0) (aCons (eIx (eVar 1) (eC (.int 1))) aNil)))))))
def M.f_is_row : Fn := mkFn 2 2 false M.m_is_row
/-- is_alphabet(value, many, rows, row, letter, place) -/
def M.m_is_alphabet : St' := (sSeq (sIf (bOr (bNot (bVal (eBf isiD (aCons (eVar 0) (aCons (eC (.ty "tuple")) aNil))))) (bOr (bCmp .NotEq (eBf lenD (aCons (eVar 0) aNil)) (eC (.int 2))) (bNot (bVal (eCallD M.f_is_between [] (aCons (eIx (eVar 0) (eC (.int 0))) (aCons (eC (.int 1)) (aCons (eC (.int 5)) aNil)))))))) (sRet (eC (.bl false))) sNext) (sSeq (sAsg (gfTup [(gfT (.nm 1)), (gfT (.nm 2))]) (eVar 0)) (sSeq (sIf (bOr (bNot (bVal (eBf isiD (aCons (eVar 2) (aCons (eC (.ty "tuple")) aNil))))) (bNot (bChain .LtE .LtE (eC (.int 1)) (eBf lenD (aCons (eVar 2) aNil)) (eC (.int 10))))) (sRet (eC (.bl false))) sNext) (sRet (eAnd (eBf allD (aCons (eFixN (nLst (lLC (.nm 3) (iOf (eVar 2)) bYes (eCallD M.f_is_row [] (aCons (eVar 1) (aCons (eVar 3) aNil))) [3]))) aNil)) (eCallD M.f_is_ascending [] (aCons (eFixN (nLst (lLC (.tp [(.nm 4), (.nm 5)]) (iOf (eVar 2)) bYes (eVar 4) [4, 5]))) aNil)))))))
def M.f_is_alphabet : Fn := mkFn 6 1 false M.m_is_alphabet
/-- require_alphabet(alphabet) -/
def M.m_require_alphabet : St' := (sIf (bNot (bVal (eCallD M.f_is_alphabet [] (aCons (eVar 0) aNil)))) sBad sNext)
def M.f_require_alphabet : Fn := mkFn 1 1 false M.m_require_alphabet
/-- letters_in(alphabet, letter, place) -/
def M.m_letters_in : St' := (sRet (eBf tupleD (aCons (eFixN (nLst (lLC (.tp [(.nm 1), (.nm 2)]) (iOf (eIx (eVar 0) (eC (.int 1)))) bYes (eVar 1) [1, 2]))) aNil)))
def M.f_letters_in : Fn := mkFn 3 1 false M.m_letters_in
/-- places_in(alphabet, letter, place) -/
def M.m_places_in : St' := (sRet (eFixN (nDC (.tp [(.nm 1), (.nm 2)]) (iOf (eIx (eVar 0) (eC (.int 1)))) bYes (eVar 1) (eVar 2) [1, 2])))
def M.f_places_in : Fn := mkFn 3 1 false M.m_places_in
/-- place_in(alphabet, letter) -/
def M.m_place_in : St' := (sRet (eIx (eCallD M.f_places_in [] (aCons (eVar 0) aNil)) (eVar 1)))
def M.f_place_in : Fn := mkFn 2 2 false M.m_place_in
/-- is_letter_in(alphabet, value) -/
def M.m_is_letter_in : St' := (sRet (eAnd (eBf isiD (aCons (eVar 1) (aCons (eC (.ty "str")) aNil))) (eCmp .In (eVar 1) (eCallD M.f_letters_in [] (aCons (eVar 0) aNil)))))
def M.f_is_letter_in : Fn := mkFn 2 2 false M.m_is_letter_in
/-- require_letter(alphabet, letter) -/
def M.m_require_letter : St' := (sIf (bNot (bVal (eCallD M.f_is_letter_in [] (aCons (eVar 0) (aCons (eVar 1) aNil))))) sBad sNext)
def M.f_require_letter : Fn := mkFn 2 2 false M.m_require_letter
/-- zero_table(many, zeros) -/
def M.m_zero_table : St' := (sSeq (sSet (.nm 1) (eBin .Mult (eTup (aCons (eC (.int 0)) aNil)) (eVar 0))) (sRet (eTup (aCons (eVar 1) (aCons (eBin .Mult (eTup (aCons (eVar 1) aNil)) (eVar 0)) aNil)))))
def M.f_zero_table : Fn := mkFn 2 1 false M.m_zero_table
/-- is_clock_in(many, value, count) -/
def M.m_is_clock_in : St' := (sSeq (sIf (bOr (bNot (bVal (eBf isiD (aCons (eVar 1) (aCons (eC (.ty "tuple")) aNil))))) (bCmp .NotEq (eBf lenD (aCons (eVar 1) aNil)) (eVar 0))) (sRet (eC (.bl false))) sNext) (sRet (eBf allD (aCons (eFixN (nLst (lLC (.nm 2) (iOf (eVar 1)) bYes (eAnd (eCallD M.f_is_integer [] (aCons (eVar 2) aNil)) (eCmp .GtE (eVar 2) (eC (.int 0)))) [2]))) aNil))))
def M.f_is_clock_in : Fn := mkFn 3 2 false M.m_is_clock_in
/-- is_table_in(many, value, clock) -/
def M.m_is_table_in : St' := (sSeq (sIf (bOr (bNot (bVal (eBf isiD (aCons (eVar 1) (aCons (eC (.ty "tuple")) aNil))))) (bOr (bCmp .NotEq (eBf lenD (aCons (eVar 1) aNil)) (eC (.int 2))) (bNot (bVal (eCallD M.f_is_clock_in [] (aCons (eVar 0) (aCons (eIx (eVar 1) (eC (.int 0))) aNil))))))) (sRet (eC (.bl false))) sNext) (sSeq (sIf (bOr (bNot (bVal (eBf isiD (aCons (eIx (eVar 1) (eC (.int 1))) (aCons (eC (.ty "tuple")) aNil))))) (bCmp .NotEq (eBf lenD (aCons (eIx (eVar 1) (eC (.int 1))) aNil)) (eVar 0))) (sRet (eC (.bl false))) sNext) (sRet (eBf allD (aCons (eFixN (nLst (lLC (.nm 2) (iOf (eIx (eVar 1) (eC (.int 1)))) bYes (eCallD M.f_is_clock_in [] (aCons (eVar 0) (aCons (eVar 2) aNil))) [2]))) aNil)))))
def M.f_is_table_in : Fn := mkFn 3 2 false M.m_is_table_in
/-- newest_in(tables, process, found, at, table) -/
def M.m_newest_in : St' := (sSeq (sSet (.nm 2) (eC (.int 0))) (sSeq (sFor (.tp [(.nm 3), (.nm 4)]) (iEnum1 (eVar 0)) (sIf (bCmp .Gt (eIx (eIx (eVar 4) (eC (.int 0))) (eVar 1)) (eIx (eIx (eIx (eVar 0) (eVar 2)) (eC (.int 0))) (eVar 1))) (sSet (.nm 2) (eVar 3)) sNext)) (sRet (eVar 2))))
def M.f_newest_in : Fn := mkFn 5 2 false M.m_newest_in
/-- met_in(many, place, tables, holders, clock, clocks, process) -/
def M.m_met_in : St' := (sSeq (sSet (.nm 3) (eFixN (nLst (lLC (.nm 6) (iRange1 (eVar 0)) bYes (eIx (eVar 2) (eCallD M.f_newest_in [] (aCons (eVar 2) (aCons (eVar 6) aNil)))) [6])))) (sSeq (sSet (.nm 4) (eBf tupleD (aCons (eFixN (nLst (lLC (.nm 6) (iRange1 (eVar 0)) bYes (eBin .Add (eIx (eIx (eIx (eVar 3) (eVar 6)) (eC (.int 0))) (eVar 6)) (eBf intD (aCons (eCmp .In (eVar 6) (eVar 1)) aNil))) [6]))) aNil))) (sSeq (sSet (.nm 5) (eFixN (nLst (lLC (.nm 6) (iRange1 (eVar 0)) bYes (eIf (bCmp .In (eVar 6) (eVar 1)) (eVar 4) (eIx (eIx (eIx (eVar 3) (eVar 6)) (eC (.int 1))) (eVar 6))) [6])))) (sRet (eTup (aCons (eVar 4) (aCons (eBf tupleD (aCons (eVar 5) aNil)) aNil)))))))
def M.f_met_in : Fn := mkFn 7 3 false M.m_met_in
/-- first_table(alphabet) -/
def M.m_first_table : St' := (sSeq (sExpr (eCallD M.f_require_alphabet [] (aCons (eVar 0) aNil))) (sRet (eCallD M.f_zero_table [] (aCons (eIx (eVar 0) (eC (.int 0))) aNil))))
def M.f_first_table : Fn := mkFn 1 1 false M.m_first_table
/-- met_tables(alphabet, letter, tables, many, place, table) -/
def M.m_met_tables : St' := (sSeq (sExpr (eCallD M.f_require_alphabet [] (aCons (eVar 0) aNil))) (sSeq (sExpr (eCallD M.f_require_letter [] (aCons (eVar 0) (aCons (eVar 1) aNil)))) (sSeq (sAsg (gfTup [(gfT (.nm 3)), (gfT (.nm 4))]) (eTup (aCons (eIx (eVar 0) (eC (.int 0))) (aCons (eCallD M.f_place_in [] (aCons (eVar 0) (aCons (eVar 1) aNil))) aNil)))) (sSeq (sIf (bOr (bNot (bVal (eBf isiD (aCons (eVar 2) (aCons (eC (.ty "tuple")) aNil))))) (bCmp .NotEq (eBf lenD (aCons (eVar 2) aNil)) (eBf lenD (aCons (eVar 4) aNil)))) sBad sNext) (sSeq (sIf (bNot (bVal (eBf allD (aCons (eFixN (nLst (lLC (.nm 5) (iOf (eVar 2)) bYes (eCallD M.f_is_table_in [] (aCons (eVar 3) (aCons (eVar 5) aNil))) [5]))) aNil)))) sBad sNext) (sRet (eCallD M.f_met_in [] (aCons (eVar 3) (aCons (eVar 4) (aCons (eVar 2) aNil))))))))))
def M.f_met_tables : Fn := mkFn 6 3 false M.m_met_tables
/-- _law_stream(_law_script, _law_at, _law_cell, _law_great, _law_mixed) -/
def M.m_law_stream : St' := (sSeq (sSet (.nm 2) (eBin .Add (eBin .Mult (eC (.int 13)) (eVar 1)) (eC (.int 5)))) (sSeq (sIf (bCmp .Lt (eVar 1) (eBf lenD (aCons (eVar 0) aNil))) (sSet (.nm 2) (eIx (eVar 0) (eVar 1))) sNext) (sSeq (sSet (.nm 3) (eBin .Mod (eBf absD (aCons (eVar 2) aNil)) (eBin .Pow (eBin .Pow (eC (.int 10)) (eC (.int 60))) (eC (.int 12))))) (sSeq (sSet (.nm 4) (eBin .Mod (eBin .Add (eBin .Add (eBin .Add (eBin .Mult (eBin .Mod (eVar 3) (eC (.int 2147483563))) (eC (.int 40692))) (eBin .Mult (eC (.int 1013)) (eVar 1))) (eBin .Mult (eC (.int 5)) (eBf intD (aCons (eCmp .Lt (eVar 2) (eC (.int 0))) aNil)))) (eC (.int 19))) (eC (.int 2147483399)))) (sRet (eThaw (nLst (lLst (aCons (eBf maxD (aCons (eC (.int 0)) (aCons (eBin .Sub (eVar 3) (eBin .Pow (eC (.int 10)) (eC (.int 18)))) aNil))) (aCons (eVar 4) (aCons (eC (.int 0)) aNil)))))))))))
def M.f_law_stream : Fn := mkFn 5 2 true M.m_law_stream
/-- _law_draw(_law_stream_here, _law_total, _law_found, _law_one, _law_two) -/
def M.m_law_draw : St' := (sSeq (sIf (bCmp .Gt (eIx (eVar 0) (eC (.int 0))) (eC (.int 0))) (sSeq (sSet (.nm 2) (eBin .Mod (eIx (eVar 0) (eC (.int 0))) (eVar 1))) (sSeq (sPut (eVar 0) (eC (.int 0)) (eBin .FloorDiv (eIx (eVar 0) (eC (.int 0))) (eVar 1))) (sRet (eVar 2)))) sNext) (sSeq (sPut (eVar 0) (eC (.int 2)) (eBin .Add (eIx (eVar 0) (eC (.int 2))) (eC (.int 1)))) (sSeq (sSet (.nm 3) (eBin .Mod (eBin .Add (eIx (eVar 0) (eC (.int 1))) (eBin .Mult (eC (.int 1000081)) (eIx (eVar 0) (eC (.int 2))))) (eC (.int 2305843009213693951)))) (sSeq (sSet (.nm 4) (eBin .Mod (eBin .Add (eBin .Mult (eBin .Mod (eBin .Mult (eVar 3) (eVar 3)) (eC (.int 2305843009213693921))) (eVar 3)) (eBin .Mult (eC (.int 7927)) (eIx (eVar 0) (eC (.int 2))))) (eC (.int 2305843009213693907)))) (sRet (eBin .Mod (eBin .FloorDiv (eVar 4) (eC (.int 8192))) (eVar 1)))))))
def M.f_law_draw : Fn := mkFn 5 2 false M.m_law_draw
/-- _law_pick(_law_stream_here, _law_items) -/
def M.m_law_pick : St' := (sRet (eIx (eVar 1) (eCallD M.f_law_draw [] (aCons (eVar 0) (aCons (eBf lenD (aCons (eVar 1) aNil)) aNil)))))
def M.f_law_pick : Fn := mkFn 2 2 false M.m_law_pick
/-- _law_alphabet(_law_stream_here, _law_most, _law_letters, _law_total, _law_places_here, _law_signs, _law_at, _law_place, _law_rows, _law_word_here, _law_sign, _law_process) -/
def M.m_law_alphabet : St' := (sSeq (sSet (.nm 3) (eBin .Add (eC (.int 1)) (eCallD M.f_law_draw [] (aCons (eVar 0) (aCons (eVar 1) aNil))))) (sSeq (sPar 4 5 (aCons (eThaw (nLst (lLst aNil))) (aCons (eC (.str "abcdefghijklmnopqrstuvwxyz")) aNil))) (sSeq (sFor (.nm 6) (iRange1 (eBin .Add (eC (.int 1)) (eCallD M.f_law_draw [] (aCons (eVar 0) (aCons (eVar 2) aNil))))) (sSeq (sSet (.nm 7) (eFixN (nLst (lLC (.nm 11) (iRange1 (eVar 3)) (bCmp .Eq (eCallD M.f_law_draw [] (aCons (eVar 0) (aCons (eC (.int 3)) aNil))) (eC (.int 0))) (eVar 11) [11])))) (sExpr (eMeth [("list", appendD)] (eVar 4) (aCons (eBf tupleD (aCons (eIf (bCmp .NotEq (eVar 7) (eFixN (nLst (lLst aNil)))) (eVar 7) (eFixN (nLst (lLst (aCons (eCallD M.f_law_draw [] (aCons (eVar 0) (aCons (eVar 3) aNil))) aNil))))) aNil)) aNil))))) (sSeq (sPar 8 9 (aCons (eThaw (nLst (lLst aNil))) (aCons (eC (.str "")) aNil))) (sSeq (sFor (.tp [(.nm 6), (.nm 7)]) (iEnum1 (eVar 4)) (sSeq (sSet (.nm 10) (eIx (eVar 5) (eBin .Add (eBin .Mult (eC (.int 2)) (eVar 6)) (eCallD M.f_law_draw [] (aCons (eVar 0) (aCons (eC (.int 2)) aNil)))))) (sSeq (sIf (bAnd (bChain .Lt .Lt (eC (.int 0)) (eBf lenD (aCons (eVar 9) aNil)) (eC (.int 8))) (bCmp .Eq (eCallD M.f_law_draw [] (aCons (eVar 0) (aCons (eC (.int 4)) aNil))) (eC (.int 0)))) (sSet (.nm 9) (eBin .Add (eVar 9) (eSl (eVar 9) oNone (oSome (eC (.int 1)))))) (sSet (.nm 9) (eBin .Mult (eVar 10) (eIx (eFixN (nLst (lLst (aCons (eC (.int 1)) (aCons (eC (.int 1)) (aCons (eC (.int 1)) (aCons (eC (.int 3)) aNil))))))) (eCallD M.f_law_draw [] (aCons (eVar 0) (aCons (eC (.int 4)) aNil))))))) (sExpr (eMeth [("list", appendD)] (eVar 8) (aCons (eTup (aCons (eVar 9) (aCons (eVar 7) aNil))) aNil)))))) (sRet (eTup (aCons (eVar 3) (aCons (eBf tupleD (aCons (eFixN (nBf sortedN (aCons (eVar 8) aNil))) aNil)) aNil)))))))))
def M.f_law_alphabet : Fn := mkFn 12 3 false M.m_law_alphabet
/-- _law_meeting_alphabet(_law_stream_here, _law_most, _law_total, _law_rows, _law_process) -/
def M.m_law_meeting_alphabet : St' := (sSeq (sPar 2 3 (aCons (eBin .Add (eC (.int 2)) (eCallD M.f_law_draw [] (aCons (eVar 0) (aCons (eBin .Sub (eVar 1) (eC (.int 1))) aNil)))) (aCons (eThaw (nLst (lLst aNil))) aNil))) (sSeq (sFor (.nm 4) (iRange1 (eVar 2)) (sSeq (sExpr (eMeth [("list", appendD)] (eVar 3) (aCons (eTup (aCons (eBin .Add (eC (.str "m")) (eIx (eC (.str "abcde")) (eVar 4))) (aCons (eBf tupleD (aCons (eFixN (nSrtSet (eFixN (nLst (lLst (aCons (eVar 4) (aCons (eBin .Mod (eBin .Add (eVar 4) (eC (.int 1))) (eVar 2)) aNil))))))) aNil)) aNil))) aNil))) (sIf (bCmp .Eq (eCallD M.f_law_draw [] (aCons (eVar 0) (aCons (eC (.int 2)) aNil))) (eC (.int 0))) (sExpr (eMeth [("list", appendD)] (eVar 3) (aCons (eTup (aCons (eBin .Add (eC (.str "own")) (eIx (eC (.str "abcde")) (eVar 4))) (aCons (eTup (aCons (eVar 4) aNil)) aNil))) aNil))) sNext))) (sRet (eTup (aCons (eVar 2) (aCons (eBf tupleD (aCons (eFixN (nBf sortedN (aCons (eVar 3) aNil))) aNil)) aNil))))))
def M.f_law_meeting_alphabet : Fn := mkFn 5 2 false M.m_law_meeting_alphabet
/-- _law_places(_law_alphabet_here, _law_letter, _law_place) -/
def M.m_law_places : St' := (sRet (eFixN (nBf dictN (aCons (eFixN (nLst (lLC (.tp [(.nm 1), (.nm 2)]) (iOf (eIx (eVar 0) (eC (.int 1)))) bYes (eTup (aCons (eVar 1) (aCons (eVar 2) aNil))) [1, 2]))) aNil))))
def M.f_law_places : Fn := mkFn 3 1 false M.m_law_places
/-- _law_word(_law_stream_here, _law_alphabet_here, _law_total, _law_letters, _law_letter, _law_place, _law_turn) -/
def M.m_law_word : St' := (sSeq (sSet (.nm 3) (eFixN (nLst (lLC (.tp [(.nm 4), (.nm 5)]) (iOf (eIx (eVar 1) (eC (.int 1)))) bYes (eVar 4) [4, 5])))) (sRet (eBf tupleD (aCons (eFixN (nLst (lLC (.nm 6) (iRange1 (eVar 2)) bYes (eCallD M.f_law_pick [] (aCons (eVar 0) (aCons (eVar 3) aNil))) [6]))) aNil))))
def M.f_law_word : Fn := mkFn 7 3 false M.m_law_word
/-- _law_meet(_law_one, _law_other, _law_process) -/
def M.m_law_meet : St' := (sRet (eCmp .NotEq (eFixN (nLst (lLC (.nm 2) (iOf (eVar 0)) (bCmp .In (eVar 2) (eVar 1)) (eVar 2) [2]))) (eFixN (nLst (lLst aNil)))))
def M.f_law_meet : Fn := mkFn 3 2 false M.m_law_meet
/-- _law_pasts(_law_alphabet_here, _law_word_here, _law_places_here, _law_found, _law_at, _law_letter, _law_inside, _law_earlier, _law_other) -/
def M.m_law_pasts : St' := (sSeq (sPar 2 3 (aCons (eCallD M.f_law_places [] (aCons (eVar 0) aNil)) (aCons (eThaw (nLst (lLst aNil))) aNil))) (sSeq (sFor (.tp [(.nm 4), (.nm 5)]) (iEnum1 (eVar 1)) (sSeq (sSet (.nm 6) (eThaw (nDisp1 (eVar 4) (eC (.bl true))))) (sSeq (sFor (.nm 7) (iRange3 (eBin .Sub (eVar 4) (eC (.int 1))) (eUn .USub (eC (.int 1))) (eUn .USub (eC (.int 1)))) (sIf (bAnd (bCmp .NotIn (eVar 7) (eVar 6)) (bVal (eCallD M.f_law_meet [] (aCons (eIx (eVar 2) (eIx (eVar 1) (eVar 7))) (aCons (eIx (eVar 2) (eVar 5)) aNil))))) (sFor (.nm 8) (iOf (eIx (eVar 3) (eVar 7))) (sPut (eVar 6) (eVar 8) (eC (.bl true)))) sNext)) (sExpr (eMeth [("list", appendD)] (eVar 3) (aCons (eFixN (nBf sortedN (aCons (eVar 6) aNil))) aNil)))))) (sRet (eVar 3))))
def M.f_law_pasts : Fn := mkFn 9 2 false M.m_law_pasts
/-- _law_last(_law_alphabet_here, _law_word_here, _law_process, _law_inside, _law_places_here, _law_found, _law_at) -/
def M.m_law_last : St' := (sSeq (sSet (.nm 4) (eCallD M.f_law_places [] (aCons (eVar 0) aNil))) (sSeq (sSet (.nm 5) (eFixN (nLst (lLC (.nm 6) (iOf (eVar 3)) (bCmp .In (eVar 2) (eIx (eVar 4) (eIx (eVar 1) (eVar 6)))) (eVar 6) [6])))) (sRet (eIf (bCmp .NotEq (eVar 5) (eFixN (nLst (lLst aNil)))) (eBf maxD (aCons (eVar 5) aNil)) (eC .non)))))
def M.f_law_last : Fn := mkFn 7 4 false M.m_law_last
/-- _law_view(_law_alphabet_here, _law_word_here, _law_group, _law_pasts_here, _law_inside, _law_process, _law_last_here, _law_at) -/
def M.m_law_view : St' := (sSeq (sPar 3 4 (aCons (eCallD M.f_law_pasts [] (aCons (eVar 0) (aCons (eVar 1) aNil))) (aCons (eThaw (fun _ S => .ok (.dct false []) S)) aNil))) (sSeq (sFor (.nm 5) (iOf (eVar 2)) (sSeq (sSet (.nm 6) (eCallD M.f_law_last [] (aCons (eVar 0) (aCons (eVar 1) (aCons (eVar 5) (aCons (eFixN (nRg (eBf lenD (aCons (eVar 1) aNil)))) aNil)))))) (sFor (.nm 7) (iOf (eIf (bCmp .IsNot (eVar 6) (eC .non)) (eIx (eVar 3) (eVar 6)) (eFixN (nLst (lLst aNil))))) (sPut (eVar 4) (eVar 7) (eC (.bl true)))))) (sRet (eFixN (nBf sortedN (aCons (eVar 4) aNil))))))
def M.f_law_view : Fn := mkFn 8 3 false M.m_law_view
/-- _law_counts(_law_alphabet_here, _law_word_here, _law_inside, _law_places_here, _law_found, _law_at, _law_process) -/
def M.m_law_counts : St' := (sSeq (sSet (.nm 3) (eCallD M.f_law_places [] (aCons (eVar 0) aNil))) (sSeq (sSet (.nm 4) (eThaw (nRep (lLst (aCons (eC (.int 0)) aNil)) (eIx (eVar 0) (eC (.int 0)))))) (sSeq (sFor (.nm 5) (iOf (eVar 2)) (sFor (.nm 6) (iOf (eIx (eVar 3) (eIx (eVar 1) (eVar 5)))) (sPut (eVar 4) (eVar 6) (eBin .Add (eIx (eVar 4) (eVar 6)) (eC (.int 1)))))) (sRet (eBf tupleD (aCons (eVar 4) aNil))))))
def M.f_law_counts : Fn := mkFn 7 3 false M.m_law_counts
/-- _law_table(_law_alphabet_here, _law_word_here, _law_process, _law_pasts_here, _law_seen, _law_clocks, _law_other, _law_last_here) -/
def M.m_law_table : St' := (sSeq (sPar 3 4 (aCons (eCallD M.f_law_pasts [] (aCons (eVar 0) (aCons (eVar 1) aNil))) (aCons (eCallD M.f_law_view [] (aCons (eVar 0) (aCons (eVar 1) (aCons (eTup (aCons (eVar 2) aNil)) aNil)))) aNil))) (sSeq (sSet (.nm 5) (eThaw (nLst (lLst aNil)))) (sSeq (sFor (.nm 6) (iRange1 (eIx (eVar 0) (eC (.int 0)))) (sSeq (sSet (.nm 7) (eCallD M.f_law_last [] (aCons (eVar 0) (aCons (eVar 1) (aCons (eVar 6) (aCons (eVar 4) aNil)))))) (sExpr (eMeth [("list", appendD)] (eVar 5) (aCons (eCallD M.f_law_counts [] (aCons (eVar 0) (aCons (eVar 1) (aCons (eIf (bCmp .IsNot (eVar 7) (eC .non)) (eIx (eVar 3) (eVar 7)) (eFixN (nLst (lLst aNil)))) aNil)))) aNil))))) (sRet (eTup (aCons (eCallD M.f_law_counts [] (aCons (eVar 0) (aCons (eVar 1) (aCons (eVar 4) aNil)))) (aCons (eBf tupleD (aCons (eVar 5) aNil)) aNil)))))))
def M.f_law_table : Fn := mkFn 8 3 false M.m_law_table
/-- _law_right(_law_alphabet_here, _law_word_here, _law_places_here, _law_tables, _law_at, _law_letter, _law_given, _law_kept, _law_told, _law_process) -/
def M.m_law_right_v3 : St' := (sSeq (sSet (.nm 2) (eCallD M.f_law_places [] (aCons (eVar 0) aNil))) (sSeq (sSet (.nm 3) (eThaw (nRep (lLst (aCons (eCallD M.f_first_table [] (aCons (eVar 0) aNil)) aNil)) (eIx (eVar 0) (eC (.int 0)))))) (sSeq (sFor (.tp [(.nm 4), (.nm 5)]) (iEnum1 (eVar 1)) (sSeq (sSet (.nm 6) (eBf tupleD (aCons (eFixN (nLst (lLC (.nm 9) (iOf (eIx (eVar 2) (eVar 5))) bYes (eIx (eVar 3) (eVar 9)) [9]))) aNil))) (sSeq (sSet (.nm 7) (eBf reprD (aCons (eVar 6) aNil))) (sSeq (sSet (.nm 8) (eCallD M.f_met_tables [] (aCons (eVar 0) (aCons (eVar 5) (aCons (eVar 6) aNil))))) (sSeq (sIf (bOr (bCmp .NotEq (eBf reprD (aCons (eVar 6) aNil)) (eVar 7)) (bCmp .NotEq (eBf reprD (aCons (eCallD M.f_met_tables [] (aCons (eVar 0) (aCons (eVar 5) (aCons (eVar 6) aNil)))) aNil)) (eBf reprD (aCons (eVar 8) aNil)))) (sRet (eC (.bl false))) sNext) (sSeq (sIf (bCmp .NotEq (eBf reprD (aCons (eVar 8) aNil)) (eBf reprD (aCons (eCallD M.f_law_table [] (aCons (eVar 0) (aCons (eSl (eVar 1) oNone (oSome (eBin .Add (eVar 4) (eC (.int 1))))) (aCons (eIx (eIx (eVar 2) (eVar 5)) (eC (.int 0))) aNil)))) aNil))) (sRet (eC (.bl false))) sNext) (sFor (.nm 9) (iOf (eIx (eVar 2) (eVar 5))) (sPut (eVar 3) (eVar 9) (eVar 8))))))))) (sSeq (sFor (.nm 9) (iRange1 (eIx (eVar 0) (eC (.int 0)))) (sIf (bCmp .NotEq (eIx (eVar 3) (eVar 9)) (eCallD M.f_law_table [] (aCons (eVar 0) (aCons (eVar 1) (aCons (eVar 9) aNil))))) (sRet (eC (.bl false))) sNext)) (sRet (eC (.bl true)))))))
def M.f_law_right_v3 : Fn := mkFn 10 2 false M.m_law_right_v3
/-- law(_law_script, _law_at, _law_stream_here, _law_alphabet_here, _law_ring, _law_full, _law_line) -/
def M.m_law_K39 : St' := (sSeq (sFor (.nm 1) (iRange1 (eBf maxD (aCons (eC (.int 1)) (aCons (eBf minD (aCons (eC (.int 6)) (aCons (eBf lenD (aCons (eVar 0) aNil)) aNil))) aNil)))) (sSeq (sSet (.nm 2) (eCallD M.f_law_stream [] (aCons (eVar 0) (aCons (eVar 1) aNil)))) (sSeq (sSet (.nm 3) (eIx (eFixN (nLst (lLst (aCons (eCallD M.f_law_alphabet [] (aCons (eVar 2) (aCons (eC (.int 5)) (aCons (eC (.int 8)) aNil)))) (aCons (eCallD M.f_law_meeting_alphabet [] (aCons (eVar 2) (aCons (eC (.int 5)) aNil))) aNil))))) (eCallD M.f_law_draw [] (aCons (eVar 2) (aCons (eC (.int 2)) aNil))))) (sIf (bNot (bVal (eCallD M.f_law_right_v3 [] (aCons (eVar 3) (aCons (eCallD M.f_law_word [] (aCons (eVar 2) (aCons (eVar 3) (aCons (eBin .Add (eC (.int 5)) (eCallD M.f_law_draw [] (aCons (eVar 2) (aCons (eC (.int 26)) aNil)))) aNil)))) aNil))))) (sRet (eC (.bl false))) sNext)))) (sSeq (sSet (.nm 4) (eTup (aCons (eC (.int 3)) (aCons (eTup (aCons (eTup (aCons (eC (.str "pq")) (aCons (eTup (aCons (eC (.int 0)) (aCons (eC (.int 1)) aNil))) aNil))) (aCons (eTup (aCons (eC (.str "pr")) (aCons (eTup (aCons (eC (.int 0)) (aCons (eC (.int 2)) aNil))) aNil))) (aCons (eTup (aCons (eC (.str "qr")) (aCons (eTup (aCons (eC (.int 1)) (aCons (eC (.int 2)) aNil))) aNil))) aNil)))) aNil)))) (sSeq (sSet (.nm 5) (eTup (aCons (eC (.int 5)) (aCons (eTup (aCons (eTup (aCons (eC (.str "all")) (aCons (eTup (aCons (eC (.int 0)) (aCons (eC (.int 1)) (aCons (eC (.int 2)) (aCons (eC (.int 3)) (aCons (eC (.int 4)) aNil)))))) aNil))) (aCons (eTup (aCons (eC (.str "one")) (aCons (eTup (aCons (eC (.int 3)) aNil)) aNil))) (aCons (eTup (aCons (eC (.str "two")) (aCons (eTup (aCons (eC (.int 0)) (aCons (eC (.int 4)) aNil))) aNil))) aNil)))) aNil)))) (sSeq (sIf (bNot (bVal (eCallD M.f_law_right_v3 [] (aCons (eVar 5) (aCons (eTup (aCons (eC (.str "one")) (aCons (eC (.str "two")) (aCons (eC (.str "all")) (aCons (eC (.str "one")) (aCons (eC (.str "one")) (aCons (eC (.str "two")) aNil))))))) aNil))))) (sRet (eC (.bl false))) sNext) (sSeq (sSet (.nm 6) (eTup (aCons (eC (.int 3)) (aCons (eTup (aCons (eTup (aCons (eC (.str "own")) (aCons (eTup (aCons (eC (.int 0)) aNil)) aNil))) (aCons (eTup (aCons (eC (.str "pq")) (aCons (eTup (aCons (eC (.int 0)) (aCons (eC (.int 1)) aNil))) aNil))) (aCons (eTup (aCons (eC (.str "qr")) (aCons (eTup (aCons (eC (.int 1)) (aCons (eC (.int 2)) aNil))) aNil))) aNil)))) aNil)))) (sSeq (sIf (bNot (bVal (eCallD M.f_law_right_v3 [] (aCons (eVar 6) (aCons (eTup (aCons (eC (.str "qr")) (aCons (eC (.str "own")) (aCons (eC (.str "own")) (aCons (eC (.str "own")) (aCons (eC (.str "pq")) aNil)))))) aNil))))) (sRet (eC (.bl false))) sNext) (sRet (eCallD M.f_law_right_v3 [] (aCons (eVar 4) (aCons (eBin .Mult (eTup (aCons (eC (.str "pq")) (aCons (eC (.str "qr")) (aCons (eC (.str "pr")) (aCons (eC (.str "pq")) aNil))))) (eC (.int 3))) aNil))))))))))
def M.f_law_K39 : Fn := mkFn 7 1 false M.m_law_K39
end
section
set_option Elab.async false
set_option linter.all false
set_option maxRecDepth 100000
set_option maxHeartbeats 4000000
set_option autoImplicit false
/-! meetwatch_k39_news_tables_met: the mirrors are those of the text (printed by gen_law.py). -/
namespace K39
open PySem PL
def top (i : Nat) : Stmt := PySem.Challenge.pw_meetwatch_k39_news_tables_met.main.body.getD i (.Pass ⟨0, 0, 0, 0⟩)
def cs : List (Str × D) := [("MAX_PROCESSES", (.int 5)), ("MAX_LETTERS", (.int 10)), ("MAX_NAME", (.int 8)), ("SIGNS", (.str "abcdefghijklmnopqrstuvwxyz"))]
abbrev e_is_integer : FnE := ⟨M.f_is_integer, [], 1⟩
abbrev e_is_between : FnE := ⟨M.f_is_between, [], 2⟩
abbrev e_is_name : FnE := ⟨M.f_is_name, [], 1⟩
abbrev e_is_ascending : FnE := ⟨M.f_is_ascending, [], 1⟩
abbrev e_are_processes : FnE := ⟨M.f_are_processes, [], 3⟩
abbrev e_is_set_of : FnE := ⟨M.f_is_set_of, [], 4⟩
abbrev e_is_row : FnE := ⟨M.f_is_row, [], 5⟩
abbrev e_is_alphabet : FnE := ⟨M.f_is_alphabet, [], 6⟩
abbrev e_require_alphabet : FnE := ⟨M.f_require_alphabet, [], 7⟩
abbrev e_letters_in : FnE := ⟨M.f_letters_in, [], 1⟩
abbrev e_places_in : FnE := ⟨M.f_places_in, [], 1⟩
abbrev e_place_in : FnE := ⟨M.f_place_in, [], 2⟩
abbrev e_is_letter_in : FnE := ⟨M.f_is_letter_in, [], 2⟩
abbrev e_require_letter : FnE := ⟨M.f_require_letter, [], 3⟩
abbrev e_zero_table : FnE := ⟨M.f_zero_table, [], 1⟩
abbrev e_is_clock_in : FnE := ⟨M.f_is_clock_in, [], 2⟩
abbrev e_is_table_in : FnE := ⟨M.f_is_table_in, [], 3⟩
abbrev e_newest_in : FnE := ⟨M.f_newest_in, [], 1⟩
abbrev e_met_in : FnE := ⟨M.f_met_in, [], 2⟩
abbrev e_first_table : FnE := ⟨M.f_first_table, [], 8⟩
abbrev e_met_tables : FnE := ⟨M.f_met_tables, [], 8⟩
abbrev e_law_stream : FnE := ⟨M.f_law_stream, [], 1⟩
abbrev e_law_draw : FnE := ⟨M.f_law_draw, [], 1⟩
abbrev e_law_pick : FnE := ⟨M.f_law_pick, [], 2⟩
abbrev e_law_alphabet : FnE := ⟨M.f_law_alphabet, [], 2⟩
abbrev e_law_meeting_alphabet : FnE := ⟨M.f_law_meeting_alphabet, [], 2⟩
abbrev e_law_places : FnE := ⟨M.f_law_places, [], 1⟩
abbrev e_law_word : FnE := ⟨M.f_law_word, [], 3⟩
abbrev e_law_meet : FnE := ⟨M.f_law_meet, [], 1⟩
abbrev e_law_pasts : FnE := ⟨M.f_law_pasts, [], 2⟩
abbrev e_law_last : FnE := ⟨M.f_law_last, [], 2⟩
abbrev e_law_view : FnE := ⟨M.f_law_view, [], 3⟩
abbrev e_law_counts : FnE := ⟨M.f_law_counts, [], 2⟩
abbrev e_law_table : FnE := ⟨M.f_law_table, [], 4⟩
abbrev e_law_right : FnE := ⟨M.f_law_right_v3, [], 9⟩
abbrev e_law : FnE := ⟨M.f_law_K39, [], 10⟩
theorem d_is_integer : denB ⟨["value"], L2.defScope (top 10), L2.defScope (top 10), ⟨[], cs⟩, 0, []⟩ (L2.defBody (top 10)) = some M.m_is_integer := by kernel_rfl
theorem d_is_between : denB ⟨["value", "low", "high"], L2.defScope (top 11), L2.defScope (top 11), ⟨[("is_integer", e_is_integer)], cs⟩, 1, []⟩ (L2.defBody (top 11)) = some M.m_is_between := by kernel_rfl
theorem d_is_name : denB ⟨["value", "sign"], L2.defScope (top 12), L2.defScope (top 12), ⟨[], cs⟩, 0, []⟩ (L2.defBody (top 12)) = some M.m_is_name := by kernel_rfl
theorem d_is_ascending : denB ⟨["items", "one", "other"], L2.defScope (top 13), L2.defScope (top 13), ⟨[], cs⟩, 0, []⟩ (L2.defBody (top 13)) = some M.m_is_ascending := by kernel_rfl
theorem d_are_processes : denB ⟨["many", "value", "process"], L2.defScope (top 14), L2.defScope (top 14), ⟨[("is_between", e_is_between)], cs⟩, 2, []⟩ (L2.defBody (top 14)) = some M.m_are_processes := by kernel_rfl
theorem d_is_set_of : denB ⟨["many", "value"], L2.defScope (top 15), L2.defScope (top 15), ⟨[("are_processes", e_are_processes), ("is_ascending", e_is_ascending)], cs⟩, 3, []⟩ (L2.defBody (top 15)) = some M.m_is_set_of := by kernel_rfl
theorem d_is_row : denB ⟨["many", "value"], L2.defScope (top 16), L2.defScope (top 16), ⟨[("is_name", e_is_name), ("is_set_of", e_is_set_of)], cs⟩, 4, []⟩ (L2.defBody (top 16)) = some M.m_is_row := by kernel_rfl
theorem d_is_alphabet : denB ⟨["value", "many", "rows", "row", "letter", "place"], L2.defScope (top 17), L2.defScope (top 17), ⟨[("is_ascending", e_is_ascending), ("is_between", e_is_between), ("is_row", e_is_row)], cs⟩, 5, []⟩ (L2.defBody (top 17)) = some M.m_is_alphabet := by kernel_rfl
theorem d_require_alphabet : denB ⟨["alphabet"], L2.defScope (top 18), L2.defScope (top 18), ⟨[("is_alphabet", e_is_alphabet)], cs⟩, 6, []⟩ (L2.defBody (top 18)) = some M.m_require_alphabet := by kernel_rfl
theorem d_letters_in : denB ⟨["alphabet", "letter", "place"], L2.defScope (top 19), L2.defScope (top 19), ⟨[], cs⟩, 0, []⟩ (L2.defBody (top 19)) = some M.m_letters_in := by kernel_rfl
theorem d_places_in : denB ⟨["alphabet", "letter", "place"], L2.defScope (top 20), L2.defScope (top 20), ⟨[], cs⟩, 0, []⟩ (L2.defBody (top 20)) = some M.m_places_in := by kernel_rfl
theorem d_place_in : denB ⟨["alphabet", "letter"], L2.defScope (top 21), L2.defScope (top 21), ⟨[("places_in", e_places_in)], cs⟩, 1, []⟩ (L2.defBody (top 21)) = some M.m_place_in := by kernel_rfl
theorem d_is_letter_in : denB ⟨["alphabet", "value"], L2.defScope (top 22), L2.defScope (top 22), ⟨[("letters_in", e_letters_in)], cs⟩, 1, []⟩ (L2.defBody (top 22)) = some M.m_is_letter_in := by kernel_rfl
theorem d_require_letter : denB ⟨["alphabet", "letter"], L2.defScope (top 23), L2.defScope (top 23), ⟨[("is_letter_in", e_is_letter_in)], cs⟩, 2, []⟩ (L2.defBody (top 23)) = some M.m_require_letter := by kernel_rfl
theorem d_zero_table : denB ⟨["many", "zeros"], L2.defScope (top 25), L2.defScope (top 25), ⟨[], cs⟩, 0, []⟩ (L2.defBody (top 25)) = some M.m_zero_table := by kernel_rfl
theorem d_is_clock_in : denB ⟨["many", "value", "count"], L2.defScope (top 26), L2.defScope (top 26), ⟨[("is_integer", e_is_integer)], cs⟩, 1, []⟩ (L2.defBody (top 26)) = some M.m_is_clock_in := by kernel_rfl
theorem d_is_table_in : denB ⟨["many", "value", "clock"], L2.defScope (top 27), L2.defScope (top 27), ⟨[("is_clock_in", e_is_clock_in)], cs⟩, 2, []⟩ (L2.defBody (top 27)) = some M.m_is_table_in := by kernel_rfl
theorem d_newest_in : denB ⟨["tables", "process", "found", "at", "table"], L2.defScope (top 28), L2.defScope (top 28), ⟨[], cs⟩, 0, []⟩ (L2.defBody (top 28)) = some M.m_newest_in := by kernel_rfl
theorem d_met_in : denB ⟨["many", "place", "tables", "holders", "clock", "clocks", "process"], L2.defScope (top 29), L2.defScope (top 29), ⟨[("newest_in", e_newest_in)], cs⟩, 1, []⟩ (L2.defBody (top 29)) = some M.m_met_in := by kernel_rfl
theorem d_first_table : denB ⟨["alphabet"], L2.defScope (top 30), L2.defScope (top 30), ⟨[("require_alphabet", e_require_alphabet), ("zero_table", e_zero_table)], cs⟩, 7, []⟩ (L2.defBody (top 30)) = some M.m_first_table := by kernel_rfl
theorem d_met_tables : denB ⟨["alphabet", "letter", "tables", "many", "place", "table"], L2.defScope (top 31), L2.defScope (top 31), ⟨[("is_table_in", e_is_table_in), ("met_in", e_met_in), ("place_in", e_place_in), ("require_alphabet", e_require_alphabet), ("require_letter", e_require_letter)], cs⟩, 7, []⟩ (L2.defBody (top 31)) = some M.m_met_tables := by kernel_rfl
theorem d_law_stream : denB ⟨["_law_script", "_law_at", "_law_cell", "_law_great", "_law_mixed"], L2.defScope (top 33), L2.defScope (top 33), ⟨[], cs⟩, 0, ["return"]⟩ (L2.defBody (top 33)) = some M.m_law_stream := by kernel_rfl
theorem d_law_draw : denB ⟨["_law_stream_here", "_law_total", "_law_found", "_law_one", "_law_two"], L2.defScope (top 34), L2.defScope (top 34), ⟨[], cs⟩, 0, []⟩ (L2.defBody (top 34)) = some M.m_law_draw := by kernel_rfl
theorem d_law_pick : denB ⟨["_law_stream_here", "_law_items"], L2.defScope (top 35), L2.defScope (top 35), ⟨[("_law_draw", e_law_draw)], cs⟩, 1, []⟩ (L2.defBody (top 35)) = some M.m_law_pick := by kernel_rfl
theorem d_law_alphabet : denB ⟨["_law_stream_here", "_law_most", "_law_letters", "_law_total", "_law_places_here", "_law_signs", "_law_at", "_law_place", "_law_rows", "_law_word_here", "_law_sign", "_law_process"], L2.defScope (top 36), L2.defScope (top 36), ⟨[("_law_draw", e_law_draw)], cs⟩, 1, ["_law_places_here", "_law_rows"]⟩ (L2.defBody (top 36)) = some M.m_law_alphabet := by kernel_rfl
theorem d_law_meeting_alphabet : denB ⟨["_law_stream_here", "_law_most", "_law_total", "_law_rows", "_law_process"], L2.defScope (top 37), L2.defScope (top 37), ⟨[("_law_draw", e_law_draw)], cs⟩, 1, ["_law_rows"]⟩ (L2.defBody (top 37)) = some M.m_law_meeting_alphabet := by kernel_rfl
theorem d_law_places : denB ⟨["_law_alphabet_here", "_law_letter", "_law_place"], L2.defScope (top 38), L2.defScope (top 38), ⟨[], cs⟩, 0, []⟩ (L2.defBody (top 38)) = some M.m_law_places := by kernel_rfl
theorem d_law_word : denB ⟨["_law_stream_here", "_law_alphabet_here", "_law_total", "_law_letters", "_law_letter", "_law_place", "_law_turn"], L2.defScope (top 39), L2.defScope (top 39), ⟨[("_law_pick", e_law_pick)], cs⟩, 2, []⟩ (L2.defBody (top 39)) = some M.m_law_word := by kernel_rfl
theorem d_law_meet : denB ⟨["_law_one", "_law_other", "_law_process"], L2.defScope (top 40), L2.defScope (top 40), ⟨[], cs⟩, 0, []⟩ (L2.defBody (top 40)) = some M.m_law_meet := by kernel_rfl
theorem d_law_pasts : denB ⟨["_law_alphabet_here", "_law_word_here", "_law_places_here", "_law_found", "_law_at", "_law_letter", "_law_inside", "_law_earlier", "_law_other"], L2.defScope (top 41), L2.defScope (top 41), ⟨[("_law_meet", e_law_meet), ("_law_places", e_law_places)], cs⟩, 1, ["_law_found", "_law_inside"]⟩ (L2.defBody (top 41)) = some M.m_law_pasts := by kernel_rfl
theorem d_law_last : denB ⟨["_law_alphabet_here", "_law_word_here", "_law_process", "_law_inside", "_law_places_here", "_law_found", "_law_at"], L2.defScope (top 42), L2.defScope (top 42), ⟨[("_law_places", e_law_places)], cs⟩, 1, []⟩ (L2.defBody (top 42)) = some M.m_law_last := by kernel_rfl
theorem d_law_view : denB ⟨["_law_alphabet_here", "_law_word_here", "_law_group", "_law_pasts_here", "_law_inside", "_law_process", "_law_last_here", "_law_at"], L2.defScope (top 43), L2.defScope (top 43), ⟨[("_law_last", e_law_last), ("_law_pasts", e_law_pasts)], cs⟩, 2, ["_law_inside"]⟩ (L2.defBody (top 43)) = some M.m_law_view := by kernel_rfl
theorem d_law_counts : denB ⟨["_law_alphabet_here", "_law_word_here", "_law_inside", "_law_places_here", "_law_found", "_law_at", "_law_process"], L2.defScope (top 44), L2.defScope (top 44), ⟨[("_law_places", e_law_places)], cs⟩, 1, ["_law_found"]⟩ (L2.defBody (top 44)) = some M.m_law_counts := by kernel_rfl
theorem d_law_table : denB ⟨["_law_alphabet_here", "_law_word_here", "_law_process", "_law_pasts_here", "_law_seen", "_law_clocks", "_law_other", "_law_last_here"], L2.defScope (top 45), L2.defScope (top 45), ⟨[("_law_counts", e_law_counts), ("_law_last", e_law_last), ("_law_pasts", e_law_pasts), ("_law_view", e_law_view)], cs⟩, 3, ["_law_clocks"]⟩ (L2.defBody (top 45)) = some M.m_law_table := by kernel_rfl
theorem d_law_right : denB ⟨["_law_alphabet_here", "_law_word_here", "_law_places_here", "_law_tables", "_law_at", "_law_letter", "_law_given", "_law_kept", "_law_told", "_law_process"], L2.defScope (top 46), L2.defScope (top 46), ⟨[("_law_places", e_law_places), ("_law_table", e_law_table), ("first_table", e_first_table), ("met_tables", e_met_tables)], cs⟩, 8, ["_law_tables"]⟩ (L2.defBody (top 46)) = some M.m_law_right_v3 := by kernel_rfl
theorem d_law : denB ⟨["_law_script", "_law_at", "_law_stream_here", "_law_alphabet_here", "_law_ring", "_law_full", "_law_line"], L2.defScope (top 47), L2.defScope (top 47), ⟨[("_law_alphabet", e_law_alphabet), ("_law_draw", e_law_draw), ("_law_meeting_alphabet", e_law_meeting_alphabet), ("_law_right", e_law_right), ("_law_stream", e_law_stream), ("_law_word", e_law_word)], cs⟩, 9, []⟩ (L2.defBody (top 47)) = some M.m_law_K39 := by kernel_rfl
end K39
end
section
set_option Elab.async false
set_option linter.all false
set_option maxRecDepth 100000
set_option maxHeartbeats 4000000
set_option autoImplicit false
/-! plain: numbers, names, alphabets -/
namespace A1
open PySem PL
def SIGNS : Str := "abcdefghijklmnopqrstuvwxyz"
def nameOk (x : Str) : Prop := 1 ≤ x.cps.size ∧ x.cps.size ≤ 8 ∧ ∀ c ∈ x.cps.toList, c ∈ SIGNS.cps.toList
def placeOk (many : Nat) (p : List Int) : Prop := p ≠ [] ∧ (∀ i ∈ p, 0 ≤ i ∧ i ≤ (many : Int) - 1) ∧ p.Pairwise (· < ·) ∧ p.length ≤ 5
def strLt (x y : Str) : Prop := x.cps.toList < y.cps.toList
instance (x y : Str) : Decidable (strLt x y) := inferInstanceAs (Decidable (x.cps.toList < y.cps.toList))
structure Alph where
  many : Nat
  rows : List (Str × List Int)
def placeD (p : List Int) : D := .tup (p.map D.int)
def rowD (r : Str × List Int) : D := .tup [.str r.1, placeD r.2]
def Alph.d (A : Alph) : D := .tup [.int A.many, .tup (A.rows.map rowD)]
structure AlphOk (A : Alph) : Prop where
  m1 : 1 ≤ A.many
  m5 : A.many ≤ 5
  r1 : 1 ≤ A.rows.length
  r10 : A.rows.length ≤ 10
  names : ∀ r ∈ A.rows, nameOk r.1
  places : ∀ r ∈ A.rows, placeOk A.many r.2
  asc : (A.rows.map (·.1)).Pairwise strLt
theorem size_le {n : Nat} (h : n ≤ 10000) : n ≤ sizeLine := Nat.le_trans h (by decide)
theorem fits_le {n : Nat} (h : n ≤ 10000) : lenFits n = true := decide_eq_true (size_le h)
section
variable {S : Sto}
theorem is_integer_int (w : WF S) (i : Int) : M.f_is_integer [.int i] S = .ok (.bl true) S := fn_pure w rfl rfl rfl
theorem is_between_int (w : WF S) (v lo hi : Int) : M.f_is_between [.int v, .int lo, .int hi] S = .ok (.bl (decide (lo ≤ v) && decide (v ≤ hi))) S := by
  refine fn_pure w rfl ?_ rfl
  show M.m_is_between [some (.int v), some (.int lo), some (.int hi)] S = _
  by_cases h1 : lo ≤ v <;> by_cases h2 : v ≤ hi <;> simp [M.m_is_between, eVar, eC, eCmp, bCmp, eChain, bChain, asB, eAnd, eOr, eNot, bVal, bAnd, bOr, bNot, eIf, aNil, aCons, eTup, lLst, eCallD, eBf, nBf, eFixN, eThaw, nLst, eUn, eIx, oNone, oSome, eSl, eBin, Res.bind, Res.thenS, sRet, sSeq, sIf, sSet, sExpr, sNext, setT, orBad, is_integer_int w, cmpR, cmpD, cmpS, leS, Res.val, h1, h2]
/-- all of a list of truths -/
theorem bls_map {α : Type} (f : α → Bool) : ∀ xs : List α, blsOf (xs.map fun x => D.bl (f x)) = some (xs.map f)
  | [] => rfl
  | x :: xs => by simp [blsOf, bls_map f xs]
theorem allD_map {α : Type} {xs : List α} {f : α → Bool} : allD [.lst (xs.map fun x => D.bl (f x))] S = .ok (.bl (xs.all f)) S := by
  simp [allD, seqOf, PL.listOf, isL, bls_map, List.all_map, Function.comp_def]
def tts (n : Nat) : List D := List.replicate n (D.bl true)
theorem all_tts (n : Nat) : allD [.lst (tts n)] S = .ok (.bl true) S := by
  have e : tts n = (List.range n).map fun x => D.bl ((fun _ : Nat => true) x) := by
    simp [tts, List.map_const', List.length_range]
  rw [e, allD_map]
  simp
theorem lLC_tt {T : Tg} {it : EvS} {f : Ev} {vs : List Nat} {s : Src} {its : List D} {ρ : Fr} (hit : it ρ S = .ok s S) (hi : itemsOf s = some its) (hl : its.length ≤ 10000)
    (h : ∀ d ∈ its, ∃ ρ1, setT T d (wipeR ρ vs) = some ρ1 ∧ f ρ1 S = .ok (.bl true) S) : lLC T it bYes f vs ρ S = .ok (tts its.length) S := by
  rw [lLC_pure (fun _ => true) (fun _ => .bl true) hit hi (size_le hl) fun d hd => ?_]
  · rw [List.filter_eq_self.mpr fun _ _ => rfl, List.map_const']; rfl
  · obtain ⟨ρ1, h1, h2⟩ := h d hd
    exact ⟨ρ1, h1, rfl, fun _ => h2⟩
/-- data -/
theorem optAll_map {α β γ : Type} {f : β → Option γ} {g : α → β} {h : α → γ} (e : ∀ x, f (g x) = some (h x)) : ∀ xs : List α, optAll f (xs.map g) = some (xs.map h)
  | [] => rfl
  | x :: xs => by simp only [List.map_cons, optAll, e, optAll_map e xs]
theorem py_ints (n : Nat) (xs : List Int) : optAll (toPyN S n) (xs.map D.int) = some (xs.map PyData.int) := optAll_map (fun x => by cases n <;> rfl) xs
theorem py_strs (n : Nat) (xs : List Str) : optAll (toPyN S n) (xs.map D.str) = some (xs.map PyData.str) := optAll_map (fun x => by cases n <;> rfl) xs
theorem any_int (i : Int) : ∀ xs : List Int, (xs.map PyData.int).any (fun y => PyData.eqv y (.int i)) = decide (i ∈ xs)
  | [] => by simp
  | x :: xs => by
    rw [List.map_cons, List.any_cons, any_int i xs]
    by_cases h : x = i
    · subst h; simp [PyData.eqv]
    · have h2 : ¬ i = x := fun e => h e.symm
      simp [PyData.eqv, h, h2]
theorem any_str (i : Str) : ∀ xs : List Str, (xs.map PyData.str).any (fun y => PyData.eqv y (.str i)) = decide (i ∈ xs)
  | [] => by simp
  | x :: xs => by
    rw [List.map_cons, List.any_cons, any_str i xs]
    by_cases h : x = i
    · subst h; simp [PyData.eqv]
    · have h2 : ¬ i = x := fun e => h e.symm
      simp [PyData.eqv, h, h2]
theorem signs_len (x : Str) : (signsD x).length = x.cps.size := by simp [signsD]
theorem is_name_ok (w : WF S) {x : Str} (h : nameOk x) : M.f_is_name [.str x] S = .ok (.bl true) S := by
  obtain ⟨h1, h2, h3⟩ := h
  refine fn_pure w rfl ?_ rfl
  show M.m_is_name [some (.str x), none] S = _
  have hlen : x.length = x.cps.size := rfl
  have lc : lLC (.nm 1) (iOf (eVar 0)) bYes (eCmp .In (eVar 1) (eC (.str "abcdefghijklmnopqrstuvwxyz"))) [1] [some (.str x), none] S = .ok (tts (signsD x).length) S := by
    refine lLC_tt (s := .one (.fix (signsD x))) (its := signsD x) rfl rfl (by rw [signs_len]; omega) fun d hd => ?_
    simp only [signsD, List.mem_map] at hd
    obtain ⟨c, hc, rfl⟩ := hd
    refine ⟨[some (.str x), some (.str ⟨#[c]⟩)], rfl, ?_⟩
    have hin : inStr ⟨#[c]⟩ ("abcdefghijklmnopqrstuvwxyz" : Str) = true := by
      show decide (c ∈ SIGNS.cps.toList) = true
      exact decide_eq_true (h3 c hc)
    simp only [eCmp, eVar, eC, Res.bind, List.getElem?_cons_succ, List.getElem?_cons_zero, cmpD, cmpR, cmpS, inS, Res.val]
    rw [hin]
  have al := all_tts (S := S) (signsD x).length
  have l1 : (1 : Int) ≤ (x.length : Int) := by rw [hlen]; omega
  have l2 : (x.length : Int) ≤ 8 := by rw [hlen]; omega
  have lf : lenFits x.length = true := fits_le (by rw [hlen]; omega)
  simp [M.m_is_name, eVar, eC, eCmp, bCmp, eChain, bChain, asB, eAnd, eOr, eNot, bVal, bAnd, bOr, bNot, eIf, aNil, aCons, eTup, lLst, eCallD, eBf, nBf, eFixN, eThaw, nLst, eUn, eIx, oNone, oSome, eSl, eBin, Res.bind, Res.thenS, sRet, sSeq, sIf, sSet, sExpr, sNext, setT, orBad, lc, al, obD, isiD, tyS, isTys, subTy, lenD, lenOf, seqOf, PL.listOf, lf, cmpR, cmpD, cmpS, leS, Res.val, l1, l2]
theorem cut_tail {α : Type} (xs : List α) : cutD xs (some 1) none = xs.tail := by
  cases xs with
  | nil => rfl
  | cons x xs => simp [cutD, HT.sIx]
theorem zip_tail_mem {α : Type} {r : α → α → Prop} : ∀ {xs : List α}, xs.Pairwise r → ∀ p ∈ xs.zip xs.tail, r p.1 p.2
  | [], _, p, h => by simp at h
  | [x], _, p, h => by simp at h
  | x :: y :: xs, hp, p, h => by
    simp only [List.tail_cons, List.zip_cons_cons, List.mem_cons] at h
    rcases h with rfl | h
    · exact (List.pairwise_cons.mp hp).1 y (by simp)
    · exact zip_tail_mem (xs := y :: xs) (List.pairwise_cons.mp hp).2 p (by simpa using h)
/-- is_ascending, where it is -/
theorem asc_lc {xs : List D} {c : D} (hn : xs.length ≤ 10000) (hit : iZip2 (eVar 0) (eSl (eVar 0) (oSome (eC (.int 1))) oNone) [some c, none, none] S = .ok (.zip (.fix xs) (.fix xs.tail)) S) (hlt : ∀ p ∈ xs.zip xs.tail, cmpD .Lt p.1 p.2 S = .ok (.bl true) S) :
    ∃ n, lLC (.tp [.nm 1, .nm 2]) (iZip2 (eVar 0) (eSl (eVar 0) (oSome (eC (.int 1))) oNone)) bYes (eCmp .Lt (eVar 1) (eVar 2)) [1, 2] [some c, none, none] S = .ok (tts n) S := by
  refine ⟨_, lLC_tt (s := .zip (.fix xs) (.fix xs.tail)) (its := (xs.zip xs.tail).map fun p => D.tup [p.1, p.2]) hit rfl ?_ fun d hd => ?_⟩
  · rw [List.length_map, List.length_zip]
    exact Nat.le_trans (Nat.min_le_left _ _) hn
  · obtain ⟨p, hp, rfl⟩ := List.mem_map.mp hd
    refine ⟨[some c, some p.1, some p.2], rfl, ?_⟩
    show cmpD .Lt p.1 p.2 S = _
    exact hlt p hp
theorem is_ascending_tup (w : WF S) {xs : List D} (hn : xs.length ≤ 10000) (hlt : ∀ p ∈ xs.zip xs.tail, cmpD .Lt p.1 p.2 S = .ok (.bl true) S) : M.f_is_ascending [.tup xs] S = .ok (.bl true) S := by
  refine fn_pure w rfl ?_ rfl
  show M.m_is_ascending [some (.tup xs), none, none] S = _
  have hit : iZip2 (eVar 0) (eSl (eVar 0) (oSome (eC (.int 1))) oNone) [some (.tup xs), none, none] S = .ok (.zip (.fix xs) (.fix xs.tail)) S := by
    simp [iZip2, eVar, eC, eCmp, bCmp, eChain, bChain, asB, eAnd, eOr, eNot, bVal, bAnd, bOr, bNot, eIf, aNil, aCons, eTup, lLst, eCallD, eBf, nBf, eFixN, eThaw, nLst, eUn, eIx, oNone, oSome, eSl, eBin, Res.bind, Res.thenS, sRet, sSeq, sIf, sSet, sExpr, sNext, setT, orBad, partI, slD, cut_tail, zip2, src1Of, isT, isL]
  obtain ⟨n, lc⟩ := asc_lc hn hit hlt
  simp [M.m_is_ascending, eVar, eC, eCmp, bCmp, eChain, bChain, asB, eAnd, eOr, eNot, bVal, bAnd, bOr, bNot, eIf, aNil, aCons, eTup, lLst, eCallD, eBf, nBf, eFixN, eThaw, nLst, eUn, eIx, oNone, oSome, eSl, eBin, Res.bind, Res.thenS, sRet, sSeq, sIf, sSet, sExpr, sNext, setT, orBad, lc, all_tts, obD]
theorem is_ascending_lst (w : WF S) {xs : List D} (hn : xs.length ≤ 10000) (hlt : ∀ p ∈ xs.zip xs.tail, cmpD .Lt p.1 p.2 S = .ok (.bl true) S) : M.f_is_ascending [.lst xs] S = .ok (.bl true) S := by
  refine fn_pure w rfl ?_ rfl
  show M.m_is_ascending [some (.lst xs), none, none] S = _
  have hit : iZip2 (eVar 0) (eSl (eVar 0) (oSome (eC (.int 1))) oNone) [some (.lst xs), none, none] S = .ok (.zip (.fix xs) (.fix xs.tail)) S := by
    simp [iZip2, eVar, eC, eCmp, bCmp, eChain, bChain, asB, eAnd, eOr, eNot, bVal, bAnd, bOr, bNot, eIf, aNil, aCons, eTup, lLst, eCallD, eBf, nBf, eFixN, eThaw, nLst, eUn, eIx, oNone, oSome, eSl, eBin, Res.bind, Res.thenS, sRet, sSeq, sIf, sSet, sExpr, sNext, setT, orBad, partI, slD, PL.listOf, cut_tail, zip2, src1Of, isT, isL]
  obtain ⟨n, lc⟩ := asc_lc hn hit hlt
  simp [M.m_is_ascending, eVar, eC, eCmp, bCmp, eChain, bChain, asB, eAnd, eOr, eNot, bVal, bAnd, bOr, bNot, eIf, aNil, aCons, eTup, lLst, eCallD, eBf, nBf, eFixN, eThaw, nLst, eUn, eIx, oNone, oSome, eSl, eBin, Res.bind, Res.thenS, sRet, sSeq, sIf, sSet, sExpr, sNext, setT, orBad, lc, all_tts, obD]
theorem lt_int {i j : Int} (h : i < j) : cmpD .Lt (.int i) (.int j) S = .ok (.bl true) S := by simp [cmpD, cmpR, cmpS, ltS, Res.val, Res.bind, h]
theorem lt_str {x y : Str} (h : strLt x y) : cmpD .Lt (.str x) (.str y) S = .ok (.bl true) S := by
  have h : x.cps.toList < y.cps.toList := h
  simp [cmpD, cmpR, cmpS, ltS, Res.val, Res.bind, h]
theorem low_place (p : List Int) (n : Nat) : low n (placeD p) = true := by
  show lowL n (p.map D.int) = true
  exact lowL_map fun _ _ => rfl
theorem low_row (r : Str × List Int) (n : Nat) : low n (rowD r) = true := by
  show (true && (low n (placeD r.2) && true)) = true
  rw [low_place]; rfl
theorem low_alph (A : Alph) (n : Nat) : low n A.d = true := by
  show (true && (lowL n (A.rows.map rowD) && true)) = true
  rw [lowL_map fun r _ => low_row r n]; rfl
theorem py_place (p : List Int) : py S (placeD p) = some (.tuple (p.map PyData.int)) := by
  show (optAll (toPyN S 59) (p.map D.int)).map PyData.tuple = _
  rw [py_ints]; rfl
/-- no tuple of some length is the empty one -/
theorem ne_empty {p : List Int} (h : p ≠ []) : cmpD .NotEq (placeD p) (.tup []) S = .ok (.bl true) S := by
  have e : eqS S (placeD p) (.tup []) = some false := by
    unfold eqS
    rw [py_place, show py S (.tup []) = some (.tuple []) from rfl]
    cases p with
    | nil => exact absurd rfl h
    | cons i p => simp [PyData.eqv, PyData.eqvAll]
  simp [cmpD, cmpR, cmpS, e, Res.val, Res.bind]
theorem are_processes_ok (w : WF S) {many : Nat} {p : List Int} (h : placeOk many p) : M.f_are_processes [.int many, placeD p] S = .ok (.bl true) S := by
  obtain ⟨h1, h2, h3, h4⟩ := h
  refine fn_pure w rfl ?_ rfl
  show M.m_are_processes [some (.int many), some (placeD p), none] S = _
  have lc : lLC (.nm 2) (iOf (eVar 1)) bYes (eCallD M.f_is_between [] (aCons (eVar 2) (aCons (eC (.int 0)) (aCons (eBin .Sub (eVar 0) (eC (.int 1))) aNil)))) [2] [some (.int many), some (placeD p), none] S = .ok (tts (p.map D.int).length) S := by
    refine lLC_tt (s := .one (.fix (p.map D.int))) (its := p.map D.int) rfl rfl (by rw [List.length_map]; omega) fun d hd => ?_
    obtain ⟨i, hi, rfl⟩ := List.mem_map.mp hd
    refine ⟨[some (.int many), some (placeD p), some (.int i)], rfl, ?_⟩
    obtain ⟨k1, k2⟩ := h2 i hi
    simp [eVar, eC, eCmp, bCmp, eChain, bChain, asB, eAnd, eOr, eNot, bVal, bAnd, bOr, bNot, eIf, aNil, aCons, eTup, lLst, eCallD, eBf, nBf, eFixN, eThaw, nLst, eUn, eIx, oNone, oSome, eSl, eBin, Res.bind, Res.thenS, sRet, sSeq, sIf, sSet, sExpr, sNext, setT, orBad, binD, is_between_int w, k1, k2]
  have ty : isiD [placeD p, .ty "tuple"] S = .ok (.bl true) S := rfl
  have ne := ne_empty (S := S) h1
  simp [M.m_are_processes, eVar, eC, eCmp, bCmp, eChain, bChain, asB, eAnd, eOr, eNot, bVal, bAnd, bOr, bNot, eIf, aNil, aCons, eTup, lLst, eCallD, eBf, nBf, eFixN, eThaw, nLst, eUn, eIx, oNone, oSome, eSl, eBin, Res.bind, Res.thenS, sRet, sSeq, sIf, sSet, sExpr, sNext, setT, orBad, lc, all_tts, obD, ty, ne, lenFits]
theorem asc_ints {p : List Int} (h : p.Pairwise (· < ·)) : ∀ q ∈ (p.map D.int).zip (p.map D.int).tail, cmpD .Lt q.1 q.2 S = .ok (.bl true) S := by
  have hp : (p.map D.int).Pairwise fun a b => cmpD .Lt a b S = .ok (.bl true) S := List.pairwise_map.mpr (h.imp fun hab => lt_int hab)
  exact zip_tail_mem hp
theorem asc_strs {xs : List Str} (h : xs.Pairwise strLt) : ∀ q ∈ (xs.map D.str).zip (xs.map D.str).tail, cmpD .Lt q.1 q.2 S = .ok (.bl true) S := by
  have hp : (xs.map D.str).Pairwise fun a b => cmpD .Lt a b S = .ok (.bl true) S := List.pairwise_map.mpr (h.imp fun hab => lt_str hab)
  exact zip_tail_mem hp
theorem is_set_of_ok (w : WF S) {many : Nat} {p : List Int} (h : placeOk many p) : M.f_is_set_of [.int many, placeD p] S = .ok (.bl true) S := by
  refine fn_pure w rfl ?_ rfl
  show M.m_is_set_of [some (.int many), some (placeD p)] S = _
  have asc : M.f_is_ascending [placeD p] S = .ok (.bl true) S := is_ascending_tup w (by rw [List.length_map]; have := h.2.2.2; omega) (asc_ints h.2.2.1)
  simp [M.m_is_set_of, eVar, eC, eCmp, bCmp, eChain, bChain, asB, eAnd, eOr, eNot, bVal, bAnd, bOr, bNot, eIf, aNil, aCons, eTup, lLst, eCallD, eBf, nBf, eFixN, eThaw, nLst, eUn, eIx, oNone, oSome, eSl, eBin, Res.bind, Res.thenS, sRet, sSeq, sIf, sSet, sExpr, sNext, setT, orBad, are_processes_ok w h, asc]
theorem atI_nat {α : Type} {xs : List α} {j : Nat} {x : α} (h : xs[j]? = some x) : L2.atI xs (j : Int) = some x := by
  have hj : j < xs.length := (List.getElem?_eq_some_iff.mp h).1
  unfold L2.atI L2.ixN
  rw [if_pos (by omega), if_pos (by omega)]
  simpa using h
theorem ix_nat {d : D} {xs : List D} {j : Nat} {x : D} (hs : seqOf S d = some xs) (h : xs[j]? = some x) : ixD d (.int (j : Int)) S = .ok x S := by
  unfold ixD ixS
  rw [hs]
  simp only [atI_nat h]
theorem ix0 {a : D} {r : List D} : ixD (.tup (a :: r)) (.int 0) S = .ok a S := ix_nat (j := 0) rfl rfl
theorem ix1 {a b : D} {r : List D} : ixD (.tup (a :: b :: r)) (.int 1) S = .ok b S := ix_nat (j := 1) rfl rfl
theorem is_row_ok (w : WF S) {many : Nat} {r : Str × List Int} (h1 : nameOk r.1) (h2 : placeOk many r.2) : M.f_is_row [.int many, rowD r] S = .ok (.bl true) S := by
  refine fn_pure w rfl ?_ rfl
  show M.m_is_row [some (.int many), some (rowD r)] S = _
  have ty : isiD [rowD r, .ty "tuple"] S = .ok (.bl true) S := rfl
  have ln : lenD [rowD r] S = .ok (.int 2) S := rfl
  have i0 : ixD (rowD r) (.int 0) S = .ok (.str r.1) S := ix0
  have i1 : ixD (rowD r) (.int 1) S = .ok (placeD r.2) S := ix1
  simp [M.m_is_row, eVar, eC, eCmp, bCmp, eChain, bChain, asB, eAnd, eOr, eNot, bVal, bAnd, bOr, bNot, eIf, aNil, aCons, eTup, lLst, eCallD, eBf, nBf, eFixN, eThaw, nLst, eUn, eIx, oNone, oSome, eSl, eBin, Res.bind, Res.thenS, sRet, sSeq, sIf, sSet, sExpr, sNext, setT, orBad, ty, ln, i0, i1, is_name_ok w h1, is_set_of_ok w h2, cmpD, cmpR, cmpS, eqS, toPyN, PyData.eqv, Res.val]
theorem rows_lc {A : Alph} (h : AlphOk A) {ρ : Fr} : True := trivial
theorem is_alphabet_ok (w : WF S) {A : Alph} (h : AlphOk A) : M.f_is_alphabet [A.d] S = .ok (.bl true) S := by
  refine fn_pure w rfl ?_ rfl
  show M.m_is_alphabet [some A.d, none, none, none, none, none] S = _
  have ty : isiD [A.d, .ty "tuple"] S = .ok (.bl true) S := rfl
  have ln : lenD [A.d] S = .ok (.int 2) S := rfl
  have i0 : ixD A.d (.int 0) S = .ok (.int A.many) S := ix0
  have b : M.f_is_between [.int A.many, .int 1, .int 5] S = .ok (.bl true) S := by
    rw [is_between_int w]
    have h1 : (1 : Int) ≤ A.many := by have := h.m1; omega
    have h2 : (A.many : Int) ≤ 5 := by have := h.m5; omega
    simp [h1, h2]
  have ty2 : isiD [.tup (A.rows.map rowD), .ty "tuple"] S = .ok (.bl true) S := rfl
  have ln2 : lenD [.tup (A.rows.map rowD)] S = .ok (.int A.rows.length) S := by simp [lenD, lenOf, seqOf]
  have r1 : (1 : Int) ≤ A.rows.length := by have := h.r1; omega
  have r2 : (A.rows.length : Int) ≤ 10 := by have := h.r10; omega
  have as : gfTup [gfT (.nm 1), gfT (.nm 2)] A.d [some A.d, none, none, none, none, none] S = .nx [some A.d, some (.int A.many), some (.tup (A.rows.map rowD)), none, none, none] S := rfl
  have lc : lLC (.nm 3) (iOf (eVar 2)) bYes (eCallD M.f_is_row [] (aCons (eVar 1) (aCons (eVar 3) aNil))) [3] [some A.d, some (.int A.many), some (.tup (A.rows.map rowD)), none, none, none] S = .ok (tts (A.rows.map rowD).length) S := by
    refine lLC_tt (s := .one (.fix (A.rows.map rowD))) (its := A.rows.map rowD) rfl rfl (by rw [List.length_map]; have := h.r10; omega) fun d hd => ?_
    obtain ⟨r, hr, rfl⟩ := List.mem_map.mp hd
    refine ⟨[some A.d, some (.int A.many), some (.tup (A.rows.map rowD)), some (rowD r), none, none], rfl, ?_⟩
    simp [eVar, eC, eCmp, bCmp, eChain, bChain, asB, eAnd, eOr, eNot, bVal, bAnd, bOr, bNot, eIf, aNil, aCons, eTup, lLst, eCallD, eBf, nBf, eFixN, eThaw, nLst, eUn, eIx, oNone, oSome, eSl, eBin, Res.bind, Res.thenS, sRet, sSeq, sIf, sSet, sExpr, sNext, setT, orBad, is_row_ok w (h.names r hr) (h.places r hr)]
  have lc2 : lLC (.tp [.nm 4, .nm 5]) (iOf (eVar 2)) bYes (eVar 4) [4, 5] [some A.d, some (.int A.many), some (.tup (A.rows.map rowD)), none, none, none] S = .ok ((A.rows.map (·.1)).map D.str) S := by
    rw [lLC_pure (s := .one (.fix (A.rows.map rowD))) (its := A.rows.map rowD) (fun _ => true) (fun d => match d with | .tup (x :: _) => x | _ => .non) rfl rfl (by rw [List.length_map]; have := h.r10; exact size_le (by omega))]
    · rw [List.filter_eq_self.mpr fun _ _ => rfl, List.map_map, List.map_map]
      rfl
    · intro d hd
      obtain ⟨r, hr, rfl⟩ := List.mem_map.mp hd
      exact ⟨_, rfl, rfl, fun _ => rfl⟩
  have asc : M.f_is_ascending [.lst ((A.rows.map (·.1)).map D.str)] S = .ok (.bl true) S := is_ascending_lst w (by simp; have := h.r10; omega) (asc_strs h.asc)
  have ne : eqS S (.int 2) (.int 2) = some true := by simp [eqS, toPyN, PyData.eqv]
  simp only [M.m_is_alphabet, sAsg, eVar, eC, eCmp, bCmp, eChain, bChain, asB, eAnd, eOr, eNot, bVal, bAnd, bOr, bNot, eIf, aNil, aCons, eTup, lLst, eCallD, eBf, nBf, eFixN, eThaw, nLst, eUn, eIx, oNone, oSome, eSl, eBin, Res.bind, Res.thenS, sRet, sSeq, sIf, sSet, sExpr, sNext, setT, orBad, List.getElem?_cons_zero, List.getElem?_cons_succ, List.append_nil, ty, ln, i0, b, ty2, ln2, as, lc, lc2, obD, all_tts, asc, cmpR, cmpD, cmpS, ne, Option.map_some, leS, Res.val, r1, r2, decide_true, Bool.not_true, Bool.not_false, if_true, Bool.false_eq_true, if_false]
end
end A1
end
section
set_option Elab.async false
set_option linter.all false
set_option maxRecDepth 100000
set_option maxHeartbeats 4000000
set_option autoImplicit false
/-! plain: words, projections -/
namespace A1
open PySem PL
def letters (A : Alph) : List Str := A.rows.map (·.1)
def own (A : Alph) (p : Int) : List Str := (A.rows.filter fun r => decide (p ∈ r.2)).map (·.1)
def proj (A : Alph) (w : List Str) (p : Int) : List Str := w.filter fun x => decide (x ∈ own A p)
def wordD (w : List Str) : D := .tup (w.map D.str)
def okL (A : Alph) : D → Bool
  | .str x => decide (x ∈ letters A)
  | _ => false
def isWordB (A : Alph) : D → Bool
  | .tup xs => xs.all (okL A)
  | _ => false
section
variable {S : Sto}
theorem in_ints {i : Int} {p : List Int} : cmpR .In (.int i) (placeD p) S = .ok (decide (i ∈ p)) S := by
  have e : inS S (.int i) (placeD p) = some (decide (i ∈ p)) := by
    show (match py S (.int i), optAll (toPyN S 59) (p.map D.int) with
      | some a, some ps => some (ps.any fun q => PyData.eqv q a)
      | _, _ => none) = _
    rw [py_ints, show py S (.int i) = some (.int i) from rfl]
    simp only [any_int]
  simp [cmpR, cmpS, e]
theorem in_strs {x : Str} {w : List Str} : cmpR .In (.str x) (wordD w) S = .ok (decide (x ∈ w)) S := by
  have e : inS S (.str x) (wordD w) = some (decide (x ∈ w)) := by
    show (match py S (.str x), optAll (toPyN S 59) (w.map D.str) with
      | some a, some ps => some (ps.any fun q => PyData.eqv q a)
      | _, _ => none) = _
    rw [py_strs, show py S (.str x) = some (.str x) from rfl]
    simp only [any_str]
  simp [cmpR, cmpS, e]
theorem in_strsD {x : Str} {w : List Str} : cmpD .In (.str x) (wordD w) S = .ok (.bl (decide (x ∈ w))) S := by
  unfold cmpD; rw [in_strs]; rfl
theorem low_word (w : List Str) (n : Nat) : low n (wordD w) = true := by
  show lowL n (w.map D.str) = true
  exact lowL_map fun _ _ => rfl
theorem tup_lst {xs : List D} : tupleD [.lst xs] S = .ok (.tup xs) S := rfl
theorem ixA1 {A : Alph} : ixD A.d (.int 1) S = .ok (.tup (A.rows.map rowD)) S := ix1
theorem ixA0 {A : Alph} : ixD A.d (.int 0) S = .ok (.int A.many) S := ix0
theorem it_rows {A : Alph} {ρ : Fr} (h : ρ[0]? = some (some A.d)) : iOf (eIx (eVar 0) (eC (.int 1))) ρ S = .ok (.one (.fix (A.rows.map rowD))) S := by
  simp [iOf, eVar, eC, eCmp, bCmp, eChain, bChain, asB, eAnd, eOr, eNot, bVal, bAnd, bOr, bNot, eIf, aNil, aCons, eTup, lLst, eCallD, eBf, nBf, eFixN, eThaw, nLst, eUn, eIx, oNone, oSome, eSl, eBin, Res.bind, Res.thenS, sRet, sSeq, sIf, sSet, sExpr, sNext, setT, orBad, h, ixA1, srcOf, src1Of]
theorem letters_in_ok (w : WF S) {A : Alph} (h : AlphOk A) : M.f_letters_in [A.d] S = .ok (wordD (letters A)) S := by
  refine fn_pure w rfl ?_ (low_word _ _)
  show M.m_letters_in [some A.d, none, none] S = _
  have lc : lLC (.tp [.nm 1, .nm 2]) (iOf (eIx (eVar 0) (eC (.int 1)))) bYes (eVar 1) [1, 2] [some A.d, none, none] S = .ok (A.rows.map fun r => .str r.1) S :=
    lLC_all (e := rowD) (fun r => .str r.1) (it_rows rfl) rfl (by have := h.r10; omega) fun r _ => ⟨_, rfl, rfl⟩
  simp only [M.m_letters_in, eVar, eC, eCmp, bCmp, eChain, bChain, asB, eAnd, eOr, eNot, bVal, bAnd, bOr, bNot, eIf, aNil, aCons, eTup, lLst, eCallD, eBf, nBf, eFixN, eThaw, nLst, eUn, eIx, oNone, oSome, eSl, eBin, Res.bind, Res.thenS, sRet, sSeq, sIf, sSet, sExpr, sNext, setT, orBad, lc, obD, tup_lst, List.append_nil]
  simp [wordD, letters, Function.comp_def]
def procs (A : Alph) : List Int := (List.range A.many).map fun (i : Nat) => (i : Int)
theorem range_items (n : Nat) : itemsOf (.one (.fix (rangeD 0 n))) = some (((List.range n).map fun (i : Nat) => (i : Int)).map D.int) := by
  simp [itemsOf, rangeD, Function.comp_def]
theorem it_procs {A : Alph} (h : AlphOk A) {ρ : Fr} (h0 : ρ[0]? = some (some A.d)) : iRange1 (eIx (eVar 0) (eC (.int 0))) ρ S = .ok (.one (.fix (rangeD 0 A.many))) S := by
  have h5 := h.m5
  have sm : small62 (A.many : Int) = true := by
    unfold small62
    exact decide_eq_true ⟨by omega, by omega⟩
  simp [iRange1, eVar, eC, eCmp, bCmp, eChain, bChain, asB, eAnd, eOr, eNot, bVal, bAnd, bOr, bNot, eIf, aNil, aCons, eTup, lLst, eCallD, eBf, nBf, eFixN, eThaw, nLst, eUn, eIx, oNone, oSome, eSl, eBin, Res.bind, Res.thenS, sRet, sSeq, sIf, sSet, sExpr, sNext, setT, orBad, h0, ixA0, range1, sm]
theorem low_lstm {α : Type} {n : Nat} {f : α → D} {xs : List α} (h : ∀ x ∈ xs, low n (f x) = true) : low n (.lst (xs.map f)) = true := by
  simp only [low]; exact lowL_map h
theorem low_tupm {α : Type} {n : Nat} {f : α → D} {xs : List α} (h : ∀ x ∈ xs, low n (f x) = true) : low n (.tup (xs.map f)) = true := by
  simp only [low]; exact lowL_map h
theorem procs_len {A : Alph} (h : AlphOk A) : (procs A).length ≤ 10000 := by
  have := h.m5
  unfold procs
  rw [List.length_map, List.length_range]
  omega
theorem i_of {f : Ev} {ρ : Fr} {S1 S2 : Sto} {d : D} {s : Src} (h1 : f ρ S = .ok d S1) (h2 : srcOf d S1 = .ok s S2) : iOf f ρ S = .ok s S2 := by
  unfold iOf; rw [h1]; exact h2
theorem len_word {w : List Str} : lenD [wordD w] S = .ok (.int w.length) S := by
  simp [lenD, lenOf, wordD, seqOf]
end
end A1
end
section
set_option Elab.async false
set_option linter.all false
set_option maxRecDepth 100000
set_option maxHeartbeats 4000000
set_option autoImplicit false
/-! plain: the stream of a law -/
namespace A1
open PySem PL
def stm (a b c : Int) : Ob := .lst [.int a, .int b, .int c]
structure StmB (k : Nat) (a b c : Int) : Prop where
  a0 : 0 ≤ a
  b0 : 0 ≤ b
  b1 : b < 2 ^ 31
  c0 : 0 ≤ c
  c1 : c ≤ k
def Stm (l k : Nat) (S : Sto) : Prop := ∃ a b c, S[l]? = some (stm a b c) ∧ StmB k a b c
/-- the stream has been drawn on, nothing else has changed -/
def Drawn (l k : Nat) (S S' : Sto) : Prop := ∃ a b c, S' = S.set l (stm a b c) ∧ StmB k a b c
theorem StmB.mono {k j : Nat} {a b c : Int} (h : StmB k a b c) (hj : k ≤ j) : StmB j a b c := ⟨h.a0, h.b0, h.b1, h.c0, by have := h.c1; omega⟩
theorem Drawn.trans {l k j : Nat} {S S1 S2 : Sto} (h : Drawn l k S S1) (g : Drawn l j S1 S2) : Drawn l j S S2 := by
  obtain ⟨a, b, c, rfl, _⟩ := h
  obtain ⟨a', b', c', rfl, g⟩ := g
  exact ⟨a', b', c', by rw [List.set_set], g⟩
theorem Drawn.stm {l k j : Nat} {S S1 : Sto} (h : Drawn l k S S1) (s : Stm l j S) : Stm l k S1 := by
  obtain ⟨a, b, c, rfl, g⟩ := h
  obtain ⟨_, _, _, e, _⟩ := s
  exact ⟨a, b, c, by rw [List.getElem?_set_self (List.getElem?_eq_some_iff.mp e).1], g⟩
theorem Stm.drawn {l k : Nat} {S : Sto} (s : Stm l k S) : Drawn l k S S := by
  obtain ⟨a, b, c, e, g⟩ := s
  obtain ⟨h1, h2⟩ := List.getElem?_eq_some_iff.mp e
  exact ⟨a, b, c, by rw [← h2, List.set_getElem_self], g⟩
theorem Stm.mono {l k j : Nat} {S : Sto} (s : Stm l k S) (h : k ≤ j) : Stm l j S := by
  obtain ⟨a, b, c, e, g⟩ := s
  exact ⟨a, b, c, e, g.mono h⟩
theorem Drawn.len {l k : Nat} {S S1 : Sto} (h : Drawn l k S S1) : S1.length = S.length := by
  obtain ⟨a, b, c, rfl, _⟩ := h
  rw [List.length_set]
theorem Drawn.wf {l k : Nat} {S S1 : Sto} (h : Drawn l k S S1) (w : WF S) : WF S1 := by
  obtain ⟨a, b, c, rfl, _⟩ := h
  exact w.put rfl
theorem Drawn.at_ {l k j : Nat} {S S1 : Sto} (h : Drawn l k S S1) (hj : j ≠ l) : S1[j]? = S[j]? := by
  obtain ⟨a, b, c, rfl, _⟩ := h
  rw [List.getElem?_set_ne (Ne.symm hj)]
section
variable {S : Sto}
theorem seq_ref {l : Nat} {xs : List D} (h : S[l]? = some (.lst xs)) : seqOf S (.ref l) = some xs := by
  show PL.listOf S (.ref l) = _
  unfold PL.listOf
  simp only [h]
theorem ix_ref {l : Nat} {xs : List D} {j : Nat} {x : D} (h : S[l]? = some (.lst xs)) (hx : xs[j]? = some x) : ixD (.ref l) (.int (j : Int)) S = .ok x S := ix_nat (seq_ref h) hx
theorem put_ref {l : Nat} {xs : List D} {j : Nat} {d : D} (h : S[l]? = some (.lst xs)) (hj : j < xs.length) : putS (.ref l) (.int (j : Int)) d S = some (S.set l (.lst (xs.set j d))) := by
  unfold putS
  simp only [h, putOb]
  unfold L2.ixN
  rw [if_pos (by omega), if_pos (by omega)]
  simp
theorem mul_ok {i j : Int} (h1 : i.natAbs < 2 ^ 200) (h2 : j.natAbs < 2 ^ 200) (d : Sto) : binD .Mult (.int i) (.int j) d = .ok (.int (i * j)) d := by
  have k1 : i.natAbs.log2 ≤ 200 := by
    by_cases z : i.natAbs = 0
    · rw [z]; decide
    · exact Nat.le_of_lt ((Nat.log2_lt z).mpr h1)
  have k2 : j.natAbs.log2 ≤ 200 := by
    by_cases z : j.natAbs = 0
    · rw [z]; decide
    · exact Nat.le_of_lt ((Nat.log2_lt z).mpr h2)
  have m : mulFits i j = true := by unfold mulFits; exact decide_eq_true (by omega)
  simp [binD, m]
theorem mod_ok {i j : Int} (h : 0 < j) : binD .Mod (.int i) (.int j) S = .ok (.int (i % j)) S := by simp [binD, h]
theorem div_ok {i j : Int} (h : 0 < j) (h2 : j.natAbs < 2 ^ 200) : binD .FloorDiv (.int i) (.int j) S = .ok (.int (i / j)) S := by
  have k2 : j.natAbs.log2 < 9000 := by
    have := (Nat.log2_lt (n := j.natAbs) (k := 200) (by omega)).mpr h2
    omega
  simp [binD, h, k2]
theorem add_ok {i j : Int} : binD .Add (.int i) (.int j) S = .ok (.int (i + j)) S := rfl
theorem sub_ok {i j : Int} : binD .Sub (.int i) (.int j) S = .ok (.int (i - j)) S := rfl
theorem gt_ok {i j : Int} : cmpR .Gt (.int i) (.int j) S = .ok (decide (j < i)) S := rfl
theorem x_binK {ρ : Fr} {S1 S2 : Sto} {f g : Ev} {op : Operator} {d e r : D} (h1 : f ρ S = .ok d S1) (h2 : g ρ S1 = .ok e S2) (h3 : binD op d e S2 = .ok r S2) : eBin op f g ρ S = .ok r S2 := by rw [x_bin h1 h2, h3]
theorem x_ixK {ρ : Fr} {S1 S2 : Sto} {f g : Ev} {d e r : D} (h1 : f ρ S = .ok d S1) (h2 : g ρ S1 = .ok e S2) (h3 : ixD d e S2 = .ok r S2) : eIx f g ρ S = .ok r S2 := by rw [x_ix h1 h2, h3]
theorem x_c {ρ : Fr} {d : D} : eC d ρ S = .ok d S := rfl
theorem s_put {ρ : Fr} {S1 S2 S3 S4 : Sto} {fo fi fv : Ev} {o i d : D} (h1 : fv ρ S = .ok d S1) (h2 : fo ρ S1 = .ok o S2) (h3 : fi ρ S2 = .ok i S3) (h4 : putS o i d S3 = some S4) : sPut fo fi fv ρ S = .nx ρ S4 := by
  unfold sPut
  rw [h1]
  show (fo ρ S1).thenS ρ _ = _
  rw [h2]
  show (fi ρ S2).thenS ρ _ = _
  rw [h3]
  show orBadS (putS o i d S3) _ = _
  rw [h4]
  rfl
theorem s_seqN {ρ ρ1 : Fr} {S1 : Sto} {t u : St'} {r : Fl} (h1 : t ρ S = .nx ρ1 S1) (h2 : u ρ1 S1 = r) : sSeq t u ρ S = r := by rw [s_seq h1, h2]
theorem s_seqR {ρ : Fr} {S1 : Sto} {t u : St'} {d : D} (h1 : t ρ S = .rt d S1) : sSeq t u ρ S = .rt d S1 := by unfold sSeq; rw [h1]
theorem s_ifT {ρ : Fr} {S1 : Sto} {A : EvB} {t u : St'} {r : Fl} (h : A ρ S = .ok true S1) (ht : t ρ S1 = r) : sIf A t u ρ S = r := by rw [s_if h, if_pos rfl, ht]
theorem s_ifF {ρ : Fr} {S1 : Sto} {A : EvB} {t u : St'} {r : Fl} (h : A ρ S = .ok false S1) (ht : u ρ S1 = r) : sIf A t u ρ S = r := by rw [s_if h, if_neg Bool.false_ne_true, ht]
theorem y_cmpK {ρ : Fr} {S1 S2 : Sto} {f g : Ev} {op : CmpOp} {d e : D} {b : Bool} (h1 : f ρ S = .ok d S1) (h2 : g ρ S1 = .ok e S2) (h3 : cmpR op d e S2 = .ok b S2) : bCmp op f g ρ S = .ok b S2 := by rw [y_cmp h1 h2, h3]
theorem gt_true {i j : Int} (h : j < i) : cmpR .Gt (.int i) (.int j) S = .ok true S := by rw [gt_ok, decide_eq_true h]
theorem gt_false {i j : Int} (h : ¬ j < i) : cmpR .Gt (.int i) (.int j) S = .ok false S := by rw [gt_ok, decide_eq_false h]
theorem draw_ok {l k : Nat} {n : Int} (w : WF S) (s : Stm l k S) (hk : k < 2 ^ 60) (h0 : 0 < n) (h1 : n < 2 ^ 60) : ∃ r S', M.f_law_draw [.ref l, .int n] S = .ok (.int r) S' ∧ 0 ≤ r ∧ r < n ∧ Drawn l (k + 1) S S' := by
  obtain ⟨a, b, c, e, a0, b0, b1, c0, c1⟩ := s
  have hl := (List.getElem?_eq_some_iff.mp e).1
  have i0 : ixD (.ref l) (.int 0) S = .ok (.int a) S := ix_ref (j := 0) e rfl
  have i2 : ixD (.ref l) (.int 2) S = .ok (.int c) S := ix_ref (j := 2) e rfl
  have hn : n.natAbs < 2 ^ 200 := Nat.lt_trans (show n.natAbs < 2 ^ 60 by omega) (by decide)
  have wf : ∀ ob : Ob, (∀ m, lowOb m ob = true) → lowS S.length (S.set l ob) = true := fun ob ho => by
    have := w.put (l := l) (ob := ob) (ho _)
    unfold WF at this
    rwa [List.length_set] at this
  by_cases ha : 0 < a
  · refine ⟨a % n, S.set l (stm (a / n) b c), ?_, Int.emod_nonneg _ (by omega), Int.emod_lt_of_pos _ h0, _, _, _, rfl, Int.ediv_nonneg a0 (by omega), b0, b1, c0, by omega⟩
    refine fn_ret rfl ?_ rfl (List.take_of_length_le (by rw [List.length_set]; exact Nat.le_refl _)) (wf _ fun _ => rfl)
    show M.m_law_draw [some (.ref l), some (.int n), none, none, none] S = _
    exact s_seqR (s_ifT (y_cmpK (x_ixK (x_var rfl) x_c i0) x_c (gt_true ha)) (s_seqN (s_set (x_binK (x_ixK (x_var rfl) x_c i0) (x_var rfl) (mod_ok h0))) (s_seqN (s_put (x_binK (x_ixK (x_var rfl) x_c i0) (x_var rfl) (div_ok h0 hn)) (x_var rfl) x_c (put_ref (j := 0) e (show (0 : Nat) < 3 by decide))) (s_ret (x_var rfl)))))
  · have e' : (S.set l (stm a b (c + 1)))[l]? = some (stm a b (c + 1)) := List.getElem?_set_self hl
    have j1 : ixD (.ref l) (.int 1) (S.set l (stm a b (c + 1))) = .ok (.int b) (S.set l (stm a b (c + 1))) := ix_ref (j := 1) e' rfl
    have j2 : ixD (.ref l) (.int 2) (S.set l (stm a b (c + 1))) = .ok (.int (c + 1)) (S.set l (stm a b (c + 1))) := ix_ref (j := 2) e' rfl
    generalize hone : (b + 1000081 * (c + 1)) % 2305843009213693951 = one
    have o0 : 0 ≤ one := by rw [← hone]; exact Int.emod_nonneg _ (by decide)
    have o1 : one < 2305843009213693951 := by rw [← hone]; exact Int.emod_lt_of_pos _ (by decide)
    have ob : one.natAbs < 2 ^ 200 := Nat.lt_trans (show one.natAbs < 2 ^ 62 by omega) (by decide)
    have q0 : 0 ≤ one * one % 2305843009213693921 := Int.emod_nonneg _ (by decide)
    have q1 : one * one % 2305843009213693921 < 2305843009213693921 := Int.emod_lt_of_pos _ (by decide)
    have qb : (one * one % 2305843009213693921).natAbs < 2 ^ 200 := Nat.lt_trans (show _ < 2 ^ 62 by omega) (by decide)
    have cb : (c + 1).natAbs < 2 ^ 200 := Nat.lt_trans (show (c + 1).natAbs < 2 ^ 62 by omega) (by decide)
    refine ⟨(one * one % 2305843009213693921 * one + 7927 * (c + 1)) % 2305843009213693907 / 8192 % n, S.set l (stm a b (c + 1)), ?_, Int.emod_nonneg _ (by omega), Int.emod_lt_of_pos _ h0, _, _, _, rfl, a0, b0, b1, by omega, by push_cast; omega⟩
    refine fn_ret rfl ?_ rfl (List.take_of_length_le (by rw [List.length_set]; exact Nat.le_refl _)) (wf _ fun _ => rfl)
    show M.m_law_draw [some (.ref l), some (.int n), none, none, none] S = _
    have s3 : ∀ ρ : Fr, ρ[0]? = some (some (.ref l)) → sSet (.nm 3) (eBin .Mod (eBin .Add (eIx (eVar 0) (eC (.int 1))) (eBin .Mult (eC (.int 1000081)) (eIx (eVar 0) (eC (.int 2))))) (eC (.int 2305843009213693951))) ρ (S.set l (stm a b (c + 1))) = .nx (ρ.set 3 (some (.int one))) (S.set l (stm a b (c + 1))) := fun ρ h => by
      rw [← hone]
      exact s_set (x_binK (x_binK (x_ixK (x_var h) x_c j1) (x_binK x_c (x_ixK (x_var h) x_c j2) (mul_ok (by decide) cb _)) add_ok) x_c (mod_ok (by decide)))
    refine s_seqN (s_ifF (y_cmpK (x_ixK (x_var rfl) x_c i0) x_c (gt_false ha)) rfl) (s_seqN (s_put (x_binK (x_ixK (x_var rfl) x_c i2) x_c add_ok) (x_var rfl) x_c (put_ref (j := 2) e (show (2 : Nat) < 3 by decide))) (s_seqN (s3 _ rfl) ?_))
    refine s_seqN (s_set (x_binK (x_binK (x_binK (x_binK (x_binK (x_var rfl) (x_var rfl) (mul_ok ob ob _)) x_c (mod_ok (by decide))) (x_var rfl) (mul_ok qb ob _)) (x_binK x_c (x_ixK (x_var rfl) x_c j2) (mul_ok (by decide) cb _)) add_ok) x_c (mod_ok (by decide)))) ?_
    exact s_ret (x_binK (x_binK (x_var rfl) x_c (div_ok (by decide) (by decide))) (x_var rfl) (mod_ok h0))
end
end A1
end
section
set_option Elab.async false
set_option linter.all false
set_option maxRecDepth 100000
set_option maxHeartbeats 4000000
set_option autoImplicit false
/-! plain: the stream begins -/
namespace A1
open PySem PL
section
variable {S : Sto}
theorem lt_okR {i j : Int} : cmpR .Lt (.int i) (.int j) S = .ok (decide (i < j)) S := rfl
theorem lt_okD {i j : Int} : cmpD .Lt (.int i) (.int j) S = .ok (.bl (decide (i < j))) S := rfl
theorem pow1 : binD .Pow (.int 10) (.int 60) S = .ok (.int (10 ^ 60)) S := by
  have h : (0 : Int) ≤ 60 ∧ (Builtin.Int.intBits 10 : Int) * 60 ≤ 2 ^ 27 := by decide +kernel
  simp only [binD, h, and_self, if_true]; rfl
theorem pow2 : binD .Pow (.int (10 ^ 60)) (.int 12) S = .ok (.int ((10 ^ 60) ^ 12)) S := by
  have h : (0 : Int) ≤ 12 ∧ (Builtin.Int.intBits (10 ^ 60) : Int) * 12 ≤ 2 ^ 27 := by decide +kernel
  simp only [binD, h, and_self, if_true]; rfl
theorem pow3 : binD .Pow (.int 10) (.int 18) S = .ok (.int (10 ^ 18)) S := by
  have h : (0 : Int) ≤ 18 ∧ (Builtin.Int.intBits 10 : Int) * 18 ≤ 2 ^ 27 := by decide +kernel
  simp only [binD, h, and_self, if_true]; rfl
theorem len_scr {xs : List D} : lenD [.scr xs] S = .ok (.int xs.length) S := rfl
theorem x_cmpK {ρ : Fr} {S1 S2 : Sto} {f g : Ev} {op : CmpOp} {d e r : D} (h1 : f ρ S = .ok d S1) (h2 : g ρ S1 = .ok e S2) (h3 : cmpD op d e S2 = .ok r S2) : eCmp op f g ρ S = .ok r S2 := by rw [x_cmp h1 h2, h3]
theorem big_pos : (0 : Int) < (10 ^ 60) ^ 12 := by decide +kernel
theorem stream_ok (ns : List Int) (t : Nat) (ht : t < 2 ^ 60) : ∃ a b, M.f_law_stream [.scr (ns.map D.int), .int (t : Int)] S = .ok (.ref S.length) (S ++ [stm a b 0]) ∧ StmB 0 a b 0 := by
  have tb : (t : Int).natAbs < 2 ^ 200 := Nat.lt_trans (show (t : Int).natAbs < 2 ^ 60 by omega) (by decide)
  -- the cell
  obtain ⟨cell, hc⟩ : ∃ cell : Int, sIf (bCmp .Lt (eVar 1) (eBf lenD (aCons (eVar 0) aNil))) (sSet (.nm 2) (eIx (eVar 0) (eVar 1))) sNext [some (.scr (ns.map D.int)), some (.int (t : Int)), some (.int (13 * (t : Int) + 5)), none, none] S = .nx [some (.scr (ns.map D.int)), some (.int (t : Int)), some (.int cell), none, none] S := by
    by_cases h : t < ns.length
    · refine ⟨ns[t], s_ifT (y_cmpK (x_var rfl) (x_bf (x_cons (x_var rfl) x_nil) len_scr) ?_) (s_set (x_ixK (x_var rfl) (x_var rfl) (ix_nat (xs := ns.map D.int) rfl ?_)))⟩
      · rw [lt_okR]; congr 1; simpa using h
      · rw [List.getElem?_map, List.getElem?_eq_getElem h]; rfl
    · refine ⟨13 * (t : Int) + 5, s_ifF (y_cmpK (x_var rfl) (x_bf (x_cons (x_var rfl) x_nil) len_scr) ?_) rfl⟩
      rw [lt_okR]; congr 1; simpa using h
  generalize hg : (if cell < 0 then -cell else cell) % (10 ^ 60) ^ 12 = great
  have g0 : 0 ≤ great := by rw [← hg]; exact Int.emod_nonneg _ (by have := big_pos; omega)
  have r0 : 0 ≤ great % 2147483563 := Int.emod_nonneg _ (by decide)
  have r1 : great % 2147483563 < 2147483563 := Int.emod_lt_of_pos _ (by decide)
  have rb : (great % 2147483563).natAbs < 2 ^ 200 := Nat.lt_trans (show _ < 2 ^ 32 by omega) (by decide)
  have neg : ∀ ρ : Fr, ρ[2]? = some (some (.int cell)) → eBf intD (aCons (eCmp .Lt (eVar 2) (eC (.int 0))) aNil) ρ S = .ok (.int (if cell < 0 then 1 else 0)) S := fun ρ h => by
    refine x_bf (x_cons (x_cmpK (x_var h) x_c lt_okD) x_nil) ?_
    by_cases z : cell < 0 <;> simp [intD, z]
  have nb : (if cell < 0 then (1 : Int) else 0).natAbs < 2 ^ 200 := by split <;> decide
  refine ⟨if great - 10 ^ 18 > 0 then great - 10 ^ 18 else 0, (great % 2147483563 * 40692 + 1013 * (t : Int) + 5 * (if cell < 0 then (1 : Int) else 0) + 19) % 2147483399, ?_, ⟨by split <;> omega, Int.emod_nonneg _ (by decide), ?_, by omega, by omega⟩⟩
  · refine fn_keep rfl ?_
    show M.m_law_stream [some (.scr (ns.map D.int)), some (.int (t : Int)), none, none, none] S = _
    refine s_seqN (s_set (x_binK (x_binK x_c (x_var rfl) (mul_ok (by decide) tb _)) x_c add_ok)) (s_seqN hc ?_)
    refine s_seqN (s_set (x_binK (x_bf (x_cons (x_var rfl) x_nil) rfl) (x_binK (x_binK x_c x_c pow1) x_c pow2) (mod_ok big_pos))) ?_
    rw [hg]
    refine s_seqN (s_set (x_binK (x_binK (x_binK (x_binK (x_binK (x_binK (x_var rfl) x_c (mod_ok (by decide))) x_c (mul_ok rb (by decide) _)) (x_binK x_c (x_var rfl) (mul_ok (by decide) tb _)) add_ok) (x_binK x_c (neg _ rfl) (mul_ok (by decide) nb _)) add_ok) x_c add_ok) x_c (mod_ok (by decide)))) ?_
    exact s_ret (x_thaw (x_nLst (x_lLst (x_cons (x_bf (x_cons x_c (x_cons (x_binK (x_var rfl) (x_binK x_c x_c pow3) sub_ok) x_nil)) rfl) (x_cons (x_var rfl) (x_cons x_c x_nil))) (show 3 ≤ sizeLine by decide))))
  · have := Int.emod_lt_of_pos (great % 2147483563 * 40692 + 1013 * (t : Int) + 5 * (if cell < 0 then (1 : Int) else 0) + 19) (show (0 : Int) < 2147483399 by decide)
    omega
theorem Drawn.low {l k : Nat} {S1 : Sto} (h : Drawn l k S S1) (w : WF S) : lowS S.length S1 = true := by
  have := h.wf w
  unfold WF at this
  rwa [h.len] at this
theorem Drawn.take {l k : Nat} {S1 : Sto} (h : Drawn l k S S1) : S1.take S.length = S1 := List.take_of_length_le (by rw [h.len]; exact Nat.le_refl _)
theorem len_lst {xs : List D} : lenD [.lst xs] S = .ok (.int xs.length) S := rfl
theorem pick_ok {l k : Nat} {xs : List D} (w : WF S) (s : Stm l k S) (hk : k < 2 ^ 60) (h0 : 0 < xs.length) (h1 : xs.length ≤ 10000) (hx : lowL S.length xs = true) : ∃ d S', M.f_law_pick [.ref l, .lst xs] S = .ok d S' ∧ d ∈ xs ∧ Drawn l (k + 1) S S' := by
  obtain ⟨r, S', h2, r0, r1, dr⟩ := draw_ok (n := (xs.length : Int)) w s hk (by omega) (by omega)
  obtain ⟨i, rfl⟩ := Int.eq_ofNat_of_zero_le r0
  have hi : i < xs.length := by omega
  refine ⟨xs[i], S', ?_, List.getElem_mem hi, dr⟩
  refine fn_ret rfl ?_ (lowL_iff.mp hx _ (List.getElem_mem hi)) dr.take (dr.low w)
  show M.m_law_pick [some (.ref l), some (.lst xs)] S = _
  exact s_ret (x_ixK (x_var rfl) (x_call (x_cons (x_var rfl) (x_cons (x_bf (x_cons (x_var rfl) x_nil) len_lst) x_nil)) h2) (ix_nat (xs := xs) rfl (List.getElem?_eq_getElem hi)))
end
end A1
end
section
set_option Elab.async false
set_option linter.all false
set_option maxRecDepth 100000
set_option maxHeartbeats 4000000
set_option autoImplicit false
/-! plain: the drawn alphabet -/
namespace A1
open PySem PL
/-- drawn on, behind other objects -/
theorem Stm.app {l k : Nat} {S : Sto} (s : Stm l k S) (T : Sto) : Stm l k (S ++ T) := by
  obtain ⟨a, b, c, e, g⟩ := s
  exact ⟨a, b, c, by rw [List.getElem?_append_left (List.getElem?_eq_some_iff.mp e).1]; exact e, g⟩
theorem Drawn.cut {l k : Nat} {S T X : Sto} (hl : l < S.length) (h : Drawn l k (S ++ T) X) : ∃ S1, X = S1 ++ T ∧ Drawn l k S S1 := by
  obtain ⟨a, b, c, rfl, g⟩ := h
  exact ⟨S.set l (A1.stm a b c), by rw [List.set_append_left _ _ hl], a, b, c, rfl, g⟩
theorem Stm.lt {l k : Nat} {S : Sto} (s : Stm l k S) : l < S.length := by
  obtain ⟨a, b, c, e, g⟩ := s
  exact (List.getElem?_eq_some_iff.mp e).1
theorem WF.app {S T : Sto} (w : WF S) (h : ∀ ob ∈ T, lowOb 0 ob = true) : WF (S ++ T) := by
  unfold WF
  refine lowS_iff.mpr fun o ho => ?_
  rcases List.mem_append.mp ho with q | q
  · exact lowOb_mono (by simp) (lowS_iff.mp w o q)
  · exact lowOb_mono (Nat.zero_le _) (h o q)
/-- a draw where other objects lie behind -/
theorem draw_app {S T : Sto} {l k : Nat} {n : Int} (w : WF (S ++ T)) (s : Stm l k S) (hk : k < 2 ^ 60) (h0 : 0 < n) (h1 : n < 2 ^ 60) : ∃ r S1, M.f_law_draw [.ref l, .int n] (S ++ T) = .ok (.int r) (S1 ++ T) ∧ 0 ≤ r ∧ r < n ∧ Drawn l (k + 1) S S1 := by
  obtain ⟨r, X, e, r0, r1, d⟩ := draw_ok w (s.app T) hk h0 h1
  obtain ⟨S1, rfl, d2⟩ := d.cut s.lt
  exact ⟨r, S1, e, r0, r1, d2⟩
theorem append_app {S T : Sto} {xs : List D} {d : D} (h : xs.length < 10000) : appendD (.ref S.length) [d] (S ++ .lst xs :: T) = .ok .non (S ++ .lst (xs ++ [d]) :: T) := by
  have e : (S ++ .lst xs :: T)[S.length]? = some (.lst xs) := by rw [List.getElem?_append_right (Nat.le_refl _), Nat.sub_self]; rfl
  unfold appendD
  simp only [e]
  rw [if_pos (fits_le (by omega))]
  congr 1
  rw [List.set_append_right _ _ (Nat.le_refl _), Nat.sub_self]
  rfl
section
variable {S : Sto}
theorem eq_int {i j : Int} : cmpR .Eq (.int i) (.int j) S = .ok (decide (i = j)) S := by
  have e : eqS S (.int i) (.int j) = some (decide (i = j)) := by
    show some (PyData.eqv (.int i) (.int j)) = _
    simp only [PyData.eqv]
    congr 1
  simp [cmpR, cmpS, e]
theorem ne_nil (ps : List Int) : cmpR .NotEq (.lst (ps.map D.int)) (.lst []) S = .ok (!ps.isEmpty) S := by
  have p1 : py S (.lst (ps.map D.int)) = some (.list (ps.map PyData.int)) := by
    show (optAll (toPyN S 59) (ps.map D.int)).map PyData.list = _
    rw [py_ints]; rfl
  have e : eqS S (.lst (ps.map D.int)) (.lst []) = some ps.isEmpty := by
    unfold eqS
    rw [p1, show py S (.lst []) = some (.list []) from rfl]
    cases ps with
    | nil => simp [PyData.eqv, PyData.eqvAll]
    | cons i ps => simp [PyData.eqv, PyData.eqvAll]
  simp [cmpR, cmpS, e]
theorem range1_ok {n : Nat} (h : n ≤ 10000) : range1 (.int (n : Int)) S = .ok (.one (.fix (rangeD 0 n))) S := by
  have sm : small62 (n : Int) = true := decide_eq_true ⟨by omega, by omega⟩
  unfold range1
  simp only [sm, if_true, Int.toNat_natCast]
theorem i_range {f : Ev} {ρ : Fr} {S1 S2 : Sto} {d : D} {s : Src} (h1 : f ρ S = .ok d S1) (h2 : range1 d S1 = .ok s S2) : iRange1 f ρ S = .ok s S2 := by
  unfold iRange1; rw [h1]; exact h2
theorem range_at {n i : Nat} {d : D} (h : (rangeD 0 n)[i]? = some d) : d = .int (i : Int) ∧ i < n := by
  unfold rangeD at h
  rw [List.getElem?_map] at h
  obtain ⟨j, hj, rfl⟩ := Option.map_eq_some_iff.mp h
  obtain ⟨h1, h2⟩ := List.getElem?_eq_some_iff.mp hj
  simp at h1 h2
  subst h2
  exact ⟨by simp, h1⟩
/-- [process for process in range(total) if draw(3) == 0] -/
theorem place_lc {T : Sto} {l k total : Nat} (ht : ∀ ob ∈ T, lowOb 0 ob = true) (w : WF S) (s : Stm l k S) (hk : k + 10 < 2 ^ 60) (h5 : total ≤ 5) {ρ : Fr} (r0 : (wipeR ρ [11])[0]? = some (some (.ref l))) (r3 : ρ[3]? = some (some (.int (total : Int)))) (rl : ρ.length = 12) :
    ∃ (ps : List Int) (S1 : Sto), lLC (.nm 11) (iRange1 (eVar 3)) (bCmp .Eq (eCallD M.f_law_draw [] (aCons (eVar 0) (aCons (eC (.int 3)) aNil))) (eC (.int 0))) (eVar 11) [11] ρ (S ++ T) = .ok (ps.map D.int) (S1 ++ T) ∧ Drawn l (k + total) S S1 ∧
      (∀ i ∈ ps, 0 ≤ i ∧ i ≤ (total : Int) - 1) ∧ ps.Pairwise (· < ·) ∧ ps.length ≤ total := by
  have hit : iRange1 (eVar 3) ρ (S ++ T) = .ok (.one (.fix (rangeD 0 total))) (S ++ T) := i_range (x_var r3) (range1_ok (by omega))
  have len : (rangeD 0 total).length = total := by simp [rangeD]
  obtain ⟨out, X, e, ⟨ps, S1, rfl, rfl, d, h1, h2, h3⟩, ol⟩ := lLC_inv (T := .nm 11) (c := bCmp .Eq (eCallD M.f_law_draw [] (aCons (eVar 0) (aCons (eC (.int 3)) aNil))) (eC (.int 0))) (f := eVar 11) (vs := [11]) (its := rangeD 0 total)
    (fun i acc X => ∃ (ps : List Int) (S1 : Sto), acc = ps.map D.int ∧ X = S1 ++ T ∧ Drawn l (k + i) S S1 ∧ (∀ j ∈ ps, 0 ≤ j ∧ j ≤ (i : Int) - 1) ∧ ps.Pairwise (· < ·) ∧ ps.length ≤ i) hit rfl (by rw [len]; exact size_le (by omega))
    ⟨[], S, rfl, rfl, s.drawn, by simp, by simp, by simp⟩ (by
      rintro i d acc X hd hal ⟨ps, S1, rfl, rfl, dr, h1, h2, h3⟩
      obtain ⟨rfl, hlt⟩ := range_at hd
      have w1 : WF (S1 ++ T) := WF.app (dr.wf w) ht
      obtain ⟨r, S2, e, r1, r2, d2⟩ := draw_app (n := 3) w1 (dr.stm s) (by omega) (by decide) (by decide)
      have rr : ((wipeR ρ [11]).set 11 (some (D.int (i : Int))))[0]? = some (some (.ref l)) := by rw [List.getElem?_set_ne (by decide)]; exact r0
      have r11 : ((wipeR ρ [11]).set 11 (some (D.int (i : Int))))[11]? = some (some (.int (i : Int))) := List.getElem?_set_self (by simp [wipeR, rl])
      refine ⟨_, decide (r = 0), S2 ++ T, rfl, y_cmpK (x_call (x_cons (x_var rr) (x_cons x_c x_nil)) e) x_c eq_int, fun _ => ⟨ps, S2, rfl, rfl, dr.trans d2, fun j hj => ?_, h2, by omega⟩, fun _ => ⟨.int (i : Int), S2 ++ T, x_var r11, ps ++ [(i : Int)], S2, by simp, rfl, dr.trans d2, fun j hj => ?_, ?_, by simp; omega⟩⟩
      · have := h1 j hj; omega
      · rcases List.mem_append.mp hj with q | q
        · have := h1 j q; omega
        · have := List.mem_singleton.mp q; omega
      · refine List.pairwise_append.mpr ⟨h2, by simp, fun a ha b hb => ?_⟩
        have := h1 a ha
        have := List.mem_singleton.mp hb
        omega)
  rw [len] at d h1 h3
  exact ⟨ps, S1, e, d, h1, h2, h3⟩
theorem x_meth {ρ : Fr} {S1 S2 S3 : Sto} {tab : MTab} {f : Ev} {F : EvL} {o d : D} {T : String} {fn : Mfn} {ds : List D} (h1 : f ρ S = .ok o S1) (h2 : tyS S1 o = some T) (h3 : tab.lookup T = some fn) (h4 : F ρ S1 = .ok ds S2) (h5 : fn o ds S2 = .ok d S3) : eMeth tab f F ρ S = .ok d S3 := by
  unfold eMeth
  rw [h1]
  show (match (tyS S1 o).bind fun T => tab.lookup T with
    | none => Res.bad
    | some fn => (F ρ S1).bind fun ds S2 => match fn o ds S2 with
      | .ok d S3 => .ok d S3
      | _ => .bad) = _
  rw [h2]
  show (match tab.lookup T with
    | none => Res.bad
    | some fn => (F ρ S1).bind fun ds S2 => match fn o ds S2 with
      | .ok d S3 => .ok d S3
      | _ => .bad) = _
  rw [h3]
  show ((F ρ S1).bind fun ds S2 => match fn o ds S2 with
      | .ok d S3 => Res.ok d S3
      | _ => .bad) = _
  rw [h4]
  show (match fn o ds S2 with
      | .ok d S3 => Res.ok d S3
      | _ => .bad) = _
  rw [h5]
theorem ty_ref {T : Sto} {xs : List D} : tyS (S ++ .lst xs :: T) (.ref S.length) = some "list" := by
  have e : (S ++ .lst xs :: T)[S.length]? = some (.lst xs) := by rw [List.getElem?_append_right (Nat.le_refl _), Nat.sub_self]; rfl
  simp only [tyS, e]
theorem x_ifT {ρ : Fr} {S1 : Sto} {A : EvB} {f g : Ev} {r : Res D} (h : A ρ S = .ok true S1) (hf : f ρ S1 = r) : eIf A f g ρ S = r := by
  unfold eIf; rw [h]; show (if true = true then f ρ S1 else g ρ S1) = _; rw [if_pos rfl, hf]
theorem x_ifF {ρ : Fr} {S1 : Sto} {A : EvB} {f g : Ev} {r : Res D} (h : A ρ S = .ok false S1) (hf : g ρ S1 = r) : eIf A f g ρ S = r := by
  unfold eIf; rw [h]; show (if false = true then f ρ S1 else g ρ S1) = _; rw [if_neg Bool.false_ne_true, hf]
/-- one place more -/
theorem place_body {l k total : Nat} {xs : List D} (hx : lowL 0 xs = true) (hn : xs.length < 10000) (w : WF S) (s : Stm l k S) (hk : k + 10 < 2 ^ 60) (h1 : 1 ≤ total) (h5 : total ≤ 5) {ρ : Fr} (r0 : ρ[0]? = some (some (.ref l))) (r3 : ρ[3]? = some (some (.int (total : Int)))) (r4 : ρ[4]? = some (some (.ref S.length))) (rl : ρ.length = 12) :
    ∃ (q ps : List Int) (S1 : Sto), sSeq (sSet (.nm 7) (eFixN (nLst (lLC (.nm 11) (iRange1 (eVar 3)) (bCmp .Eq (eCallD M.f_law_draw [] (aCons (eVar 0) (aCons (eC (.int 3)) aNil))) (eC (.int 0))) (eVar 11) [11])))) (sExpr (eMeth [("list", appendD)] (eVar 4) (aCons (eBf tupleD (aCons (eIf (bCmp .NotEq (eVar 7) (eFixN (nLst (lLst aNil)))) (eVar 7) (eFixN (nLst (lLst (aCons (eCallD M.f_law_draw [] (aCons (eVar 0) (aCons (eVar 3) aNil))) aNil))))) aNil)) aNil))) ρ (S ++ [.lst xs])
        = .nx (ρ.set 7 (some (.lst (ps.map D.int)))) (S1 ++ [.lst (xs ++ [placeD q])]) ∧ placeOk total q ∧ Drawn l (k + 6) S S1 := by
  have ht : ∀ ob ∈ [Ob.lst xs], lowOb 0 ob = true := fun ob ho => by rw [List.mem_singleton.mp ho]; exact hx
  have wr0 : (wipeR ρ [11])[0]? = some (some (.ref l)) := by
    show (ρ.set 11 none)[0]? = _
    rw [List.getElem?_set_ne (by decide)]; exact r0
  obtain ⟨ps, S1, e, d, p1, p2, p3⟩ := place_lc ht w s hk h5 wr0 r3 rl
  have v0 : (ρ.set 7 (some (.lst (ps.map D.int))))[0]? = some (some (.ref l)) := by rw [List.getElem?_set_ne (by decide)]; exact r0
  have v3 : (ρ.set 7 (some (.lst (ps.map D.int))))[3]? = some (some (.int (total : Int))) := by rw [List.getElem?_set_ne (by decide)]; exact r3
  have v4 : (ρ.set 7 (some (.lst (ps.map D.int))))[4]? = some (some (.ref S1.length)) := by rw [List.getElem?_set_ne (by decide), d.len]; exact r4
  have v7 : (ρ.set 7 (some (.lst (ps.map D.int))))[7]? = some (some (.lst (ps.map D.int))) := List.getElem?_set_self (by rw [rl]; decide)
  have nil : ∀ (ρ : Fr) (S : Sto), eFixN (nLst (lLst aNil)) ρ S = .ok (.lst []) S := fun ρ S => x_fix (x_nLst (x_lLst x_nil (Nat.zero_le _)))
  by_cases hp : ps = []
  · have w1 : WF (S1 ++ [.lst xs]) := WF.app (d.wf w) ht
    obtain ⟨r, S2, e2, q0, q1, d2⟩ := draw_app (n := (total : Int)) w1 (d.stm s) (by omega) (by omega) (by omega)
    refine ⟨[r], ps, S2, s_seqN (s_set (x_fix (x_nLst e))) ?_, ⟨by simp, by intro i hi; rw [List.mem_singleton.mp hi]; omega, by simp, by simp⟩, ?_⟩
    · refine s_expr (d := .non) (x_meth (x_var v4) ty_ref rfl (x_cons (x_bf (x_cons (x_ifF (y_cmpK (x_var v7) (nil _ _) ?_) (x_fix (x_nLst (x_lLst (x_cons (x_call (x_cons (x_var v0) (x_cons (x_var v3) x_nil)) e2) x_nil) (Nat.le_trans (show 1 ≤ 10000 by decide) (by decide)))))) x_nil) tup_lst) x_nil) ?_)
      · rw [ne_nil, hp]; rfl
      · have := append_app (S := S2) (T := []) (xs := xs) (d := placeD [r]) hn
        rw [d2.len] at this
        exact this
    · obtain ⟨a, b, c, e3, g⟩ := d.trans d2
      exact ⟨a, b, c, e3, g.mono (by omega)⟩
  · refine ⟨ps, ps, S1, s_seqN (s_set (x_fix (x_nLst e))) ?_, ⟨hp, p1, p2, by omega⟩, ?_⟩
    · refine s_expr (d := .non) (x_meth (x_var v4) ty_ref rfl (x_cons (x_bf (x_cons (x_ifT (y_cmpK (x_var v7) (nil _ _) ?_) (x_var v7)) x_nil) tup_lst) x_nil) ?_)
      · rw [ne_nil]
        cases ps with
        | nil => exact absurd rfl hp
        | cons _ _ => rfl
      · exact append_app (T := []) hn
    · obtain ⟨a, b, c, e3, g⟩ := d
      exact ⟨a, b, c, e3, g.mono (by omega)⟩
structure FrA (l p total : Nat) (ρ : Fr) : Prop where
  r0 : ρ[0]? = some (some (.ref l))
  r3 : ρ[3]? = some (some (.int (total : Int)))
  r4 : ρ[4]? = some (some (.ref p))
  r5 : ρ[5]? = some (some (.str SIGNS))
  rl : ρ.length = 12
theorem FrA.set {l p total : Nat} {ρ : Fr} (h : FrA l p total ρ) {i : Nat} {d : D} (hi : 6 ≤ i) : FrA l p total (ρ.set i (some d)) :=
  ⟨by rw [List.getElem?_set_ne (by omega)]; exact h.r0, by rw [List.getElem?_set_ne (by omega)]; exact h.r3, by rw [List.getElem?_set_ne (by omega)]; exact h.r4, by rw [List.getElem?_set_ne (by omega)]; exact h.r5, by rw [List.length_set]; exact h.rl⟩
theorem low_places {n : Nat} (pls : List (List Int)) : lowL n (pls.map placeD) = true := lowL_map fun p _ => low_place p n
/-- all the places -/
theorem places_loop {l k total cnt : Nat} (w : WF S) (s : Stm l k S) (hk : k + 100 < 2 ^ 60) (h1 : 1 ≤ total) (h5 : total ≤ 5) (h10 : cnt ≤ 10) {ρ : Fr} (fr : FrA l S.length total ρ) {it : EvS} {X0 : Sto} (hit : it ρ X0 = .ok (.one (.fix (rangeD 0 cnt))) (S ++ [.lst []])) :
    ∃ (pls : List (List Int)) (S1 : Sto) (ρ1 : Fr), sFor (.nm 6) it (sSeq (sSet (.nm 7) (eFixN (nLst (lLC (.nm 11) (iRange1 (eVar 3)) (bCmp .Eq (eCallD M.f_law_draw [] (aCons (eVar 0) (aCons (eC (.int 3)) aNil))) (eC (.int 0))) (eVar 11) [11])))) (sExpr (eMeth [("list", appendD)] (eVar 4) (aCons (eBf tupleD (aCons (eIf (bCmp .NotEq (eVar 7) (eFixN (nLst (lLst aNil)))) (eVar 7) (eFixN (nLst (lLst (aCons (eCallD M.f_law_draw [] (aCons (eVar 0) (aCons (eVar 3) aNil))) aNil))))) aNil)) aNil)))) ρ X0
      = .nx ρ1 (S1 ++ [.lst (pls.map placeD)]) ∧ pls.length = cnt ∧ (∀ q ∈ pls, placeOk total q) ∧ Drawn l (k + 60) S S1 ∧ FrA l S.length total ρ1 := by
  have len : (rangeD 0 cnt).length = cnt := by simp [rangeD]
  have go := sFor_inv (T := .nm 6) (it := it) (ρ := ρ) (S := X0) (its := rangeD 0 cnt)
    (b := sSeq (sSet (.nm 7) (eFixN (nLst (lLC (.nm 11) (iRange1 (eVar 3)) (bCmp .Eq (eCallD M.f_law_draw [] (aCons (eVar 0) (aCons (eC (.int 3)) aNil))) (eC (.int 0))) (eVar 11) [11])))) (sExpr (eMeth [("list", appendD)] (eVar 4) (aCons (eBf tupleD (aCons (eIf (bCmp .NotEq (eVar 7) (eFixN (nLst (lLst aNil)))) (eVar 7) (eFixN (nLst (lLst (aCons (eCallD M.f_law_draw [] (aCons (eVar 0) (aCons (eVar 3) aNil))) aNil))))) aNil)) aNil))))
    (fun i ρ X => ∃ (pls : List (List Int)) (S1 : Sto), X = S1 ++ [.lst (pls.map placeD)] ∧ pls.length = i ∧ (∀ q ∈ pls, placeOk total q) ∧ Drawn l (k + 6 * i) S S1 ∧ FrA l S.length total ρ)
    (fun r => ∃ (pls : List (List Int)) (S1 : Sto) (ρ1 : Fr), r = .nx ρ1 (S1 ++ [.lst (pls.map placeD)]) ∧ pls.length = cnt ∧ (∀ q ∈ pls, placeOk total q) ∧ Drawn l (k + 60) S S1 ∧ FrA l S.length total ρ1)
    hit rfl ⟨[], S, rfl, rfl, by simp, s.drawn, fr⟩ (by
      rintro i d ρ X hd ⟨pls, S1, rfl, hl, ok, dr, f⟩
      obtain ⟨rfl, hlt⟩ := range_at hd
      have f1 : FrA l S.length total (ρ.set 6 (some (.int (i : Int)))) := f.set (by decide)
      obtain ⟨q, ps, S2, e, qo, d2⟩ := place_body (xs := pls.map placeD) (low_places pls) (by rw [List.length_map]; omega) (dr.wf w) (dr.stm s) (by omega) h1 h5 f1.r0 f1.r3 (by rw [dr.len]; exact f1.r4) f1.rl
      refine ⟨_, rfl, ?_⟩
      rw [e]
      refine ⟨pls ++ [q], S2, by simp, by simp [hl], fun z hz => ?_, ?_, f1.set (by decide)⟩
      · rcases List.mem_append.mp hz with m | m
        · exact ok z m
        · rw [List.mem_singleton.mp m]; exact qo
      · obtain ⟨a, b, c, e3, g⟩ := dr.trans d2
        exact ⟨a, b, c, e3, g.mono (by omega)⟩) (by
      rintro ρ X ⟨pls, S1, rfl, hl, ok, dr, f⟩
      rw [len] at hl dr
      obtain ⟨a, b, c, e3, g⟩ := dr
      exact ⟨pls, S1, ρ, rfl, hl, ok, ⟨a, b, c, e3, g.mono (by omega)⟩, f⟩)
  exact go
end
end A1
end
section
set_option Elab.async false
set_option linter.all false
set_option maxRecDepth 100000
set_option maxHeartbeats 4000000
set_option autoImplicit false
/-! plain: rows that are sorted already -/
namespace A1
open PySem PL
section
variable {S : Sto}
def rowP (r : Str × List Int) : PyData := .tuple [.str r.1, .tuple (r.2.map PyData.int)]
theorem py_row (r : Str × List Int) : py S (rowD r) = some (rowP r) := by
  show (optAll (toPyN S 59) [.str r.1, placeD r.2]).map PyData.tuple = _
  have h : toPyN S 59 (placeD r.2) = some (.tuple (r.2.map PyData.int)) := by
    show (optAll (toPyN S 58) (r.2.map D.int)).map PyData.tuple = _
    rw [py_ints]; rfl
  simp only [optAll, h, show toPyN S 59 (.str r.1) = some (.str r.1) from rfl]
  rfl
theorem enc_row (r : Str × List Int) : enc S (rowD r) = rowP r := by unfold enc; rw [py_row]; rfl
theorem alike_ints : ∀ p q : List Int, PySem.W.alikeAll (p.map PyData.int) (q.map PyData.int) = true
  | [], _ => by simp [PySem.W.alikeAll]
  | _ :: _, [] => by simp [PySem.W.alikeAll]
  | i :: p, j :: q => by simp [PySem.W.alikeAll, PySem.W.alike, alike_ints p q]
theorem alike_rows (r t : Str × List Int) : PySem.W.alike (rowP r) (rowP t) = true := by
  simp [rowP, PySem.W.alike, PySem.W.alikeAll, alike_ints]
theorem le_rows {r t : Str × List Int} (h : strLt r.1 t.1) : PySem.W.dataLe false (enc S) (rowD r) (rowD t) = true := by
  show (!PySem.W.dataLt (enc S (rowD t)) (enc S (rowD r))) = true
  rw [enc_row, enc_row]
  unfold rowP
  have h : r.1.cps.toList < t.1.cps.toList := h
  have ne : ¬ t.1 = r.1 := fun e => by rw [e] at h; exact List.lt_irrefl _ h
  rw [PySem.W.dataLt_tuple, PySem.W.dataLt_all_no rfl (by simp [PyData.eqv, ne]), PySem.W.dataLt_str]
  have : ¬ t.1.cps.toList < r.1.cps.toList := List.lt_asymm h
  simp [this]
theorem sorted_rows {rows : List (Str × List Int)} (h : (rows.map (·.1)).Pairwise strLt) (hl : rows.length ≤ 10000) {v : D} (hs : seqOf S v = some (rows.map rowD)) (hi : isL S v = true) : sortedN [v] S = .ok (.lst (rows.map rowD)) S := by
  have e1 : optAll (py S) (rows.map rowD) = some (rows.map rowP) := optAll_map py_row rows
  have e2 : sortD S (rows.map rowD) = rows.map rowD := by
    unfold sortD
    refine List.mergeSort_of_pairwise ?_
    refine List.pairwise_map.mpr ?_
    exact (List.pairwise_map.mp h).imp fun q => le_rows q
  have ok : sortOk (rows.map rowP) = true := by
    unfold sortOk
    have a1 : ((rows.map rowP).all fun p => (rows.map rowP).all fun q => PySem.W.alike p q) = true := by
      refine List.all_eq_true.mpr fun p hp => List.all_eq_true.mpr fun q hq => ?_
      obtain ⟨r, _, rfl⟩ := List.mem_map.mp hp
      obtain ⟨t, _, rfl⟩ := List.mem_map.mp hq
      exact alike_rows r t
    have : (rows.map rowP).length ≤ sizeLine := by rw [List.length_map]; exact size_le hl
    refine Bool.and_eq_true_iff.mpr ⟨Bool.and_eq_true_iff.mpr ⟨a1, Bool.or_eq_true_iff.mpr (.inl (List.all_eq_true.mpr fun p hp => ?_))⟩, decide_eq_true this⟩
    obtain ⟨r, _, rfl⟩ := List.mem_map.mp hp
    rfl
  unfold sortedN
  simp only [hs, hi, e1, ok, if_true, e2]
end
end A1
end
section
set_option Elab.async false
set_option linter.all false
set_option maxRecDepth 100000
set_option maxHeartbeats 4000000
set_option autoImplicit false
/-! plain: names of one sign, repeated -/
namespace A1
open PySem PL
def rep (c n : Nat) : Str := ⟨(List.replicate n c).toArray⟩
theorem rep_list (c n : Nat) : (rep c n).cps.toList = List.replicate n c := rfl
theorem rep_size (c n : Nat) : (rep c n).cps.size = n := by simp [rep]
theorem rep_len (c n : Nat) : (rep c n).length = n := rep_size c n
theorem rep_succ (c n : Nat) : rep c n ++ rep c 1 = rep c (n + 1) := by
  show (⟨(rep c n).cps ++ (rep c 1).cps⟩ : Str) = _
  simp only [rep, List.append_toArray, List.replicate_append_replicate]
theorem rep_cut {c n : Nat} (h : 1 ≤ n) : L2.cutS (rep c n) none (some 1) = rep c 1 := by
  have e : (rep c n).length = n := rep_len c n
  unfold L2.cutS
  rw [e, rep_list]
  simp only [HT.sIx]
  have : min (Int.toNat 1) n = 1 := by simp; omega
  simp only [show ¬ (1 : Int) < 0 by decide, if_false, this, List.drop_zero, Nat.sub_zero]
  unfold rep
  rw [List.take_replicate]
  simp [Nat.min_eq_left h]
theorem rep_mul1 (c : Nat) : Txt.mul ⟨#[c]⟩ 1 = rep c 1 := rfl
theorem rep_mul3 (c : Nat) : Txt.mul ⟨#[c]⟩ 3 = rep c 3 := rfl
theorem replicate_lt {c n m : Nat} (h : n < m) : List.replicate n c < List.replicate m c := by
  induction n generalizing m with
  | zero =>
    cases m with
    | zero => omega
    | succ m => simp [List.replicate_succ]
  | succ n ih =>
    cases m with
    | zero => omega
    | succ m =>
      rw [List.replicate_succ, List.replicate_succ]
      exact List.cons_lt_cons_iff.mpr (.inr ⟨rfl, ih (by omega)⟩)
theorem rep_lt {c d n m : Nat} (hn : 1 ≤ n) (hm : 1 ≤ m) (h : c < d ∨ (c = d ∧ n < m)) : strLt (rep c n) (rep d m) := by
  show List.replicate n c < List.replicate m d
  rcases h with h | ⟨rfl, h⟩
  · obtain ⟨n, rfl⟩ : ∃ k, n = k + 1 := ⟨n - 1, by omega⟩
    obtain ⟨m, rfl⟩ : ∃ k, m = k + 1 := ⟨m - 1, by omega⟩
    rw [List.replicate_succ, List.replicate_succ]
    exact List.cons_lt_cons_iff.mpr (.inl h)
  · exact replicate_lt h
theorem signs_list : SIGNS.cps.toList = (List.range 26).map (97 + ·) := by decide +kernel
theorem rep_ok {j n : Nat} (hj : j < 26) (h1 : 1 ≤ n) (h8 : n ≤ 8) : nameOk (rep (97 + j) n) := by
  refine ⟨by rw [rep_size]; exact h1, by rw [rep_size]; exact h8, fun c hc => ?_⟩
  rw [rep_list] at hc
  obtain ⟨_, rfl⟩ := List.mem_replicate.mp hc
  rw [signs_list]
  exact List.mem_map.mpr ⟨j, List.mem_range.mpr hj, rfl⟩
section
variable {S : Sto}
theorem sign_at {j : Nat} (h : j < 26) : ixD (.str SIGNS) (.int (j : Int)) S = .ok (.str ⟨#[97 + j]⟩) S := by
  have e : SIGNS.cps.toList[j]? = some (97 + j) := by
    rw [signs_list, List.getElem?_map, List.getElem?_range h]; rfl
  have l : lenFits SIGNS.length = true := by decide +kernel
  unfold ixD ixS
  simp only [seqOf, PL.listOf, l, if_true, atI_nat e, Option.map_some]
theorem add_rep {c n : Nat} (h : n ≤ 100) : binD .Add (.str (rep c n)) (.str (rep c 1)) S = .ok (.str (rep c (n + 1))) S := by
  show (if lenFits ((rep c n).length + (rep c 1).length) = true then Res.ok (D.str (rep c n ++ rep c 1)) S else .bad) = _
  rw [if_pos (fits_le (by rw [rep_len, rep_len]; omega)), rep_succ]
theorem sl_rep {c n : Nat} (h1 : 1 ≤ n) (h : n ≤ 100) : slD (.str (rep c n)) none (some 1) S = .ok (.str (rep c 1)) S := by
  unfold slD
  simp only [rep_len, fits_le (show n ≤ 10000 by omega), if_true, rep_cut h1]
theorem mul_rep1 {c : Nat} : binD .Mult (.str ⟨#[c]⟩) (.int 1) S = .ok (.str (rep c 1)) S := by
  show (if -(2 ^ 63) ≤ (1 : Int) ∧ (1 : Int).toNat ≤ 16777216 ∧ (⟨#[c]⟩ : Str).length * (1 : Int).toNat ≤ 16777216 then Res.ok (D.str (Txt.mul ⟨#[c]⟩ 1)) S else .bad) = _
  rw [if_pos ⟨by decide, by decide, by show 1 * 1 ≤ 16777216; decide⟩, rep_mul1]
theorem mul_rep3 {c : Nat} : binD .Mult (.str ⟨#[c]⟩) (.int 3) S = .ok (.str (rep c 3)) S := by
  show (if -(2 ^ 63) ≤ (3 : Int) ∧ (3 : Int).toNat ≤ 16777216 ∧ (⟨#[c]⟩ : Str).length * (3 : Int).toNat ≤ 16777216 then Res.ok (D.str (Txt.mul ⟨#[c]⟩ 3)) S else .bad) = _
  rw [if_pos ⟨by decide, by decide, by show 1 * 3 ≤ 16777216; decide⟩, rep_mul3]
end
end A1
end
section
set_option Elab.async false
set_option linter.all false
set_option maxRecDepth 100000
set_option maxHeartbeats 4000000
set_option autoImplicit false
/-! plain: one row more -/
namespace A1
open PySem PL
section
variable {S : Sto}
theorem y_andT {ρ : Fr} {S1 : Sto} {A B : EvB} {r : Res Bool} (h : A ρ S = .ok true S1) (hb : B ρ S1 = r) : bAnd A B ρ S = r := by
  unfold bAnd
  simp only [h, Res.bind, if_true]
  exact hb
theorem y_andF {ρ : Fr} {S1 : Sto} {A B : EvB} (h : A ρ S = .ok false S1) : bAnd A B ρ S = .ok false S1 := by
  unfold bAnd
  simp [h, Res.bind]
theorem y_chain {ρ : Fr} {f g h : Ev} {o1 o2 : CmpOp} {d e k : D} {b c : Bool} (h1 : f ρ S = .ok d S) (h2 : g ρ S = .ok e S) (h3 : cmpR o1 d e S = .ok b S) (h4 : h ρ S = .ok k S) (h5 : cmpR o2 e k S = .ok c S) : bChain o1 o2 f g h ρ S = .ok (b && c) S := by
  unfold bChain
  rw [h1]
  show ((g ρ S).bind fun e S2 => (cmpR o1 d e S2).bind fun c S3 => if c = true then (h ρ S3).bind fun k S4 => cmpR o2 e k S4 else .ok false S3) = _
  rw [h2]
  show ((cmpR o1 d e S).bind fun c S3 => if c = true then (h ρ S3).bind fun k S4 => cmpR o2 e k S4 else .ok false S3) = _
  rw [h3]
  show (if b = true then (h ρ S).bind fun k S4 => cmpR o2 e k S4 else .ok false S) = _
  cases b with
  | true => rw [if_pos rfl, h4]; show cmpR o2 e k S = _; rw [h5]; simp
  | false => rw [if_neg Bool.false_ne_true]; simp
theorem len_str {x : Str} (h : x.length ≤ 10000) : lenD [.str x] S = .ok (.int x.length) S := by
  simp [lenD, lenOf, seqOf, PL.listOf, fits_le h]
theorem x_sl {ρ : Fr} {f : Ev} {lo hi : EvO} {d r : D} {l h : Option Int} (h1 : f ρ S = .ok d S) (h2 : lo ρ S = .ok l S) (h3 : hi ρ S = .ok h S) (h4 : slD d l h S = .ok r S) : eSl f lo hi ρ S = .ok r S := by
  unfold eSl
  rw [h1]
  show ((lo ρ S).bind fun l S2 => (hi ρ S2).bind fun h S3 => slD d l h S3) = _
  rw [h2]
  show ((hi ρ S).bind fun h S3 => slD d l h S3) = _
  rw [h3]
  exact h4
theorem append_app2 {S : Sto} {ob : Ob} {xs : List D} {d : D} (h : xs.length < 10000) : appendD (.ref (S.length + 1)) [d] (S ++ [ob, .lst xs]) = .ok .non (S ++ [ob, .lst (xs ++ [d])]) := by
  have := append_app (S := S ++ [ob]) (T := []) (xs := xs) (d := d) h
  simpa using this
theorem ty_ref2 {S : Sto} {ob : Ob} {xs : List D} : tyS (S ++ [ob, .lst xs]) (.ref (S.length + 1)) = some "list" := by
  have := ty_ref (S := S ++ [ob]) (T := []) (xs := xs)
  simpa using this
abbrev dr (n : Int) : Ev := eCallD M.f_law_draw [] (aCons (eVar 0) (aCons (eC (.int n)) aNil))
abbrev rowB : St' := sSeq (sSet (.nm 10) (eIx (eVar 5) (eBin .Add (eBin .Mult (eC (.int 2)) (eVar 6)) (dr 2)))) (sSeq (sIf (bAnd (bChain .Lt .Lt (eC (.int 0)) (eBf lenD (aCons (eVar 9) aNil)) (eC (.int 8))) (bCmp .Eq (dr 4) (eC (.int 0)))) (sSet (.nm 9) (eBin .Add (eVar 9) (eSl (eVar 9) oNone (oSome (eC (.int 1)))))) (sSet (.nm 9) (eBin .Mult (eVar 10) (eIx (eFixN (nLst (lLst (aCons (eC (.int 1)) (aCons (eC (.int 1)) (aCons (eC (.int 1)) (aCons (eC (.int 3)) aNil))))))) (dr 4))))) (sExpr (eMeth [("list", appendD)] (eVar 8) (aCons (eTup (aCons (eVar 9) (aCons (eVar 7) aNil))) aNil))))
/-- the word of a row -/
theorem word_step {T : Sto} {l k m n m1 : Nat} (ht : ∀ ob ∈ T, lowOb 0 ob = true) (w : WF S) (s : Stm l k S) (hk : k + 10 < 2 ^ 60) (hn : n ≤ 8) (hm : m1 < 26) (hlt : n = 0 ∨ m < m1) {ρ : Fr} (r0 : ρ[0]? = some (some (.ref l))) (r9 : ρ[9]? = some (some (.str (rep (97 + m) n)))) (r10 : ρ[10]? = some (some (.str ⟨#[97 + m1]⟩))) (rl : ρ.length = 12) :
    ∃ (m' n' : Nat) (S2 : Sto), sIf (bAnd (bChain .Lt .Lt (eC (.int 0)) (eBf lenD (aCons (eVar 9) aNil)) (eC (.int 8))) (bCmp .Eq (dr 4) (eC (.int 0)))) (sSet (.nm 9) (eBin .Add (eVar 9) (eSl (eVar 9) oNone (oSome (eC (.int 1)))))) (sSet (.nm 9) (eBin .Mult (eVar 10) (eIx (eFixN (nLst (lLst (aCons (eC (.int 1)) (aCons (eC (.int 1)) (aCons (eC (.int 1)) (aCons (eC (.int 3)) aNil))))))) (dr 4)))) ρ (S ++ T)
      = .nx (ρ.set 9 (some (.str (rep (97 + m') n')))) (S2 ++ T) ∧ 1 ≤ n' ∧ n' ≤ 8 ∧ (m' = m ∧ n' = n + 1 ∧ 1 ≤ n ∨ m' = m1) ∧ Drawn l (k + 2) S S2 := by
  have w1 : WF (S ++ T) := WF.app w ht
  have ch : bChain .Lt .Lt (eC (.int 0)) (eBf lenD (aCons (eVar 9) aNil)) (eC (.int 8)) ρ (S ++ T) = .ok (decide ((0 : Int) < (n : Int)) && decide ((n : Int) < 8)) (S ++ T) := by
    have := y_chain (S := S ++ T) (ρ := ρ) (f := eC (.int 0)) (g := eBf lenD (aCons (eVar 9) aNil)) (h := eC (.int 8)) x_c (x_bf (x_cons (x_var r9) x_nil) (len_str (by rw [rep_len]; omega))) lt_okR x_c lt_okR
    rw [rep_len] at this
    exact this
  -- another sign
  have other : ∀ (k' : Nat) (S' : Sto), Drawn l k' S S' → k' ≤ k + 1 → ∃ (n' : Nat) (S2 : Sto), sSet (.nm 9) (eBin .Mult (eVar 10) (eIx (eFixN (nLst (lLst (aCons (eC (.int 1)) (aCons (eC (.int 1)) (aCons (eC (.int 1)) (aCons (eC (.int 3)) aNil))))))) (dr 4))) ρ (S' ++ T) = .nx (ρ.set 9 (some (.str (rep (97 + m1) n')))) (S2 ++ T) ∧ 1 ≤ n' ∧ n' ≤ 8 ∧ Drawn l (k + 2) S S2 := by
    intro k' S' d hk'
    obtain ⟨r, S2, e, p0, p1, d2⟩ := draw_app (n := 4) (WF.app (d.wf w) ht) ((d.stm s).mono hk') (by omega) (by decide) (by decide)
    obtain ⟨i, rfl⟩ := Int.eq_ofNat_of_zero_le p0
    have four : eFixN (nLst (lLst (aCons (eC (.int 1)) (aCons (eC (.int 1)) (aCons (eC (.int 1)) (aCons (eC (.int 3)) aNil)))))) ρ (S' ++ T) = .ok (.lst [.int 1, .int 1, .int 1, .int 3]) (S' ++ T) := x_fix (x_nLst (x_lLst (x_cons x_c (x_cons x_c (x_cons x_c (x_cons x_c x_nil)))) (show 4 ≤ sizeLine by decide)))
    have d3 : Drawn l (k + 2) S S2 := d.trans d2
    have draw := x_call (fn := M.f_law_draw) (x_cons (x_var (S := S' ++ T) r0) (x_cons (x_c (d := .int 4)) x_nil)) e
    have hi : i < 4 := by omega
    match i, hi with
    | 0, _ => exact ⟨1, S2, s_set (x_binK (x_var r10) (x_ixK four draw (ix_nat (j := 0) rfl rfl)) mul_rep1), by omega, by omega, d3⟩
    | 1, _ => exact ⟨1, S2, s_set (x_binK (x_var r10) (x_ixK four draw (ix_nat (j := 1) rfl rfl)) mul_rep1), by omega, by omega, d3⟩
    | 2, _ => exact ⟨1, S2, s_set (x_binK (x_var r10) (x_ixK four draw (ix_nat (j := 2) rfl rfl)) mul_rep1), by omega, by omega, d3⟩
    | 3, _ => exact ⟨3, S2, s_set (x_binK (x_var r10) (x_ixK four draw (ix_nat (j := 3) rfl rfl)) mul_rep3), by omega, by omega, d3⟩
  by_cases hc : 0 < n ∧ n < 8
  · have c1 : (decide ((0 : Int) < (n : Int)) && decide ((n : Int) < 8)) = true := by simp; omega
    rw [c1] at ch
    obtain ⟨r, S1, e, p0, p1, d1⟩ := draw_app (n := 4) w1 s (by omega) (by decide) (by decide)
    have draw := x_call (fn := M.f_law_draw) (x_cons (x_var (S := S ++ T) r0) (x_cons (x_c (d := .int 4)) x_nil)) e
    by_cases hr : r = 0
    · refine ⟨m, n + 1, S1, s_ifT (y_andT ch (y_cmpK draw x_c (by rw [eq_int, decide_eq_true hr]))) (s_set (x_binK (x_var r9) (x_sl (x_var r9) rfl rfl (sl_rep (by omega) (by omega))) (add_rep (by omega)))), by omega, by omega, .inl ⟨rfl, rfl, by omega⟩, ?_⟩
      obtain ⟨a, b, c, e3, g⟩ := d1
      exact ⟨a, b, c, e3, g.mono (by omega)⟩
    · obtain ⟨n', S2, e2, q1, q2, d2⟩ := other (k + 1) S1 d1 (Nat.le_refl _)
      exact ⟨m1, n', S2, s_ifF (y_andT ch (y_cmpK draw x_c (by rw [eq_int, decide_eq_false hr]))) e2, q1, q2, .inr rfl, d2⟩
  · have c1 : (decide ((0 : Int) < (n : Int)) && decide ((n : Int) < 8)) = false := by
      simp only [Bool.and_eq_false_iff, decide_eq_false_iff_not]
      omega
    rw [c1] at ch
    obtain ⟨n', S2, e2, q1, q2, d2⟩ := other k S s.drawn (by omega)
    exact ⟨m1, n', S2, s_ifF (y_andF ch) e2, q1, q2, .inr rfl, d2⟩
theorem row_body {l k i m n : Nat} {pls : List (List Int)} {rows : List (Str × List Int)} {q : List Int} (hi : i < 10) (hr : rows.length < 10000) (w : WF S) (s : Stm l k S) (hk : k + 20 < 2 ^ 60) (hn : n ≤ 8) (hlt : n = 0 ∨ m < 2 * i) {ρ : Fr} (r0 : ρ[0]? = some (some (.ref l))) (r5 : ρ[5]? = some (some (.str SIGNS))) (r6 : ρ[6]? = some (some (.int (i : Int))))
    (r7 : ρ[7]? = some (some (placeD q))) (r8 : ρ[8]? = some (some (.ref (S.length + 1)))) (r9 : ρ[9]? = some (some (.str (rep (97 + m) n)))) (rl : ρ.length = 12) :
    ∃ (m1 m' n' : Nat) (S2 : Sto), rowB ρ (S ++ [.lst (pls.map placeD), .lst (rows.map rowD)]) = .nx ((ρ.set 10 (some (.str ⟨#[97 + m1]⟩))).set 9 (some (.str (rep (97 + m') n')))) (S2 ++ [.lst (pls.map placeD), .lst ((rows ++ [(rep (97 + m') n', q)]).map rowD)]) ∧ 1 ≤ n' ∧ n' ≤ 8 ∧
      (m' = m ∧ n' = n + 1 ∧ 1 ≤ n ∨ 2 * i ≤ m' ∧ m' < 2 * i + 2) ∧ Drawn l (k + 3) S S2 := by
  have ht : ∀ ob ∈ [Ob.lst (pls.map placeD), Ob.lst (rows.map rowD)], lowOb 0 ob = true := fun ob ho => by
    rcases List.mem_cons.mp ho with h | h
    · rw [h]; exact low_places pls
    · rw [List.mem_singleton.mp h]; exact lowL_map fun r _ => low_row r 0
  obtain ⟨r, S1, e, p0, p1, d1⟩ := draw_app (n := 2) (WF.app w ht) s (by omega) (by decide) (by decide)
  obtain ⟨j, rfl⟩ := Int.eq_ofNat_of_zero_le p0
  have hj : j < 2 := by omega
  have draw := x_call (fn := M.f_law_draw) (x_cons (x_var (S := S ++ [Ob.lst (pls.map placeD), Ob.lst (rows.map rowD)]) r0) (x_cons (x_c (d := .int 2)) x_nil)) e
  have two : binD .Mult (.int 2) (.int (i : Int)) (S ++ [Ob.lst (pls.map placeD), Ob.lst (rows.map rowD)]) = .ok (.int (2 * (i : Int))) (S ++ [Ob.lst (pls.map placeD), Ob.lst (rows.map rowD)]) :=
    mul_ok (by decide) (Nat.lt_trans (show (i : Int).natAbs < 1024 by rw [Int.natAbs_natCast]; omega) (by decide)) _
  have ixs : ixD (.str SIGNS) (.int (2 * (i : Int) + (j : Int))) (S1 ++ [Ob.lst (pls.map placeD), Ob.lst (rows.map rowD)]) = .ok (.str ⟨#[97 + (2 * i + j)]⟩) (S1 ++ [Ob.lst (pls.map placeD), Ob.lst (rows.map rowD)]) := by
    have := sign_at (S := S1 ++ [Ob.lst (pls.map placeD), Ob.lst (rows.map rowD)]) (j := 2 * i + j) (by omega)
    rw [← this]
    congr 2
  have st1 : sSet (.nm 10) (eIx (eVar 5) (eBin .Add (eBin .Mult (eC (.int 2)) (eVar 6)) (dr 2))) ρ (S ++ [Ob.lst (pls.map placeD), Ob.lst (rows.map rowD)]) = .nx (ρ.set 10 (some (.str ⟨#[97 + (2 * i + j)]⟩))) (S1 ++ [Ob.lst (pls.map placeD), Ob.lst (rows.map rowD)]) :=
    s_set (x_ixK (x_var r5) (x_binK (x_binK x_c (x_var r6) two) draw add_ok) ixs)
  have g : ∀ {x : Nat} {d : Option D}, x ≠ 10 → ρ[x]? = some d → (ρ.set 10 (some (.str ⟨#[97 + (2 * i + j)]⟩)))[x]? = some d := fun hx h => by rw [List.getElem?_set_ne (Ne.symm hx)]; exact h
  obtain ⟨m', n', S2, e2, q1, q2, q3, d2⟩ := word_step (T := [Ob.lst (pls.map placeD), Ob.lst (rows.map rowD)]) (m := m) (n := n) (m1 := 2 * i + j) ht (d1.wf w) (d1.stm s) (by omega) hn (by omega) (by omega) (g (by decide) r0) (g (by decide) r9) (List.getElem?_set_self (by rw [rl]; decide)) (by rw [List.length_set]; exact rl)
  refine ⟨2 * i + j, m', n', S2, s_seqN st1 (s_seqN e2 ?_), q1, q2, by omega, d1.trans d2⟩
  have dl : S2.length = S.length := by rw [d2.len, d1.len]
  have g2 : ∀ {x : Nat} {d : Option D}, x ≠ 10 → x ≠ 9 → ρ[x]? = some d → ((ρ.set 10 (some (.str ⟨#[97 + (2 * i + j)]⟩))).set 9 (some (.str (rep (97 + m') n'))))[x]? = some d := fun hx hy h => by rw [List.getElem?_set_ne (Ne.symm hy)]; exact g hx h
  have v8 := g2 (by decide) (by decide) r8
  rw [← dl] at v8
  have v9 : ((ρ.set 10 (some (.str ⟨#[97 + (2 * i + j)]⟩))).set 9 (some (.str (rep (97 + m') n'))))[9]? = some (some (.str (rep (97 + m') n'))) := List.getElem?_set_self (by rw [List.length_set, rl]; decide)
  refine s_expr (d := .non) (x_meth (x_var v8) ty_ref2 rfl (x_cons (x_tup (x_cons (x_var v9) (x_cons (x_var (g2 (by decide) (by decide) r7)) x_nil)) (show 2 ≤ sizeLine by decide)) x_nil) ?_)
  rw [List.map_append]
  exact append_app2 (by rw [List.length_map]; exact hr)
end
end A1
end
section
set_option Elab.async false
set_option linter.all false
set_option maxRecDepth 100000
set_option maxHeartbeats 4000000
set_option autoImplicit false
/-! plain: the alphabet is drawn -/
namespace A1
open PySem PL
section
variable {S : Sto}
structure Rows (i m n : Nat) (pls : List (List Int)) (rows : List (Str × List Int)) : Prop where
  len : rows.length = i
  pl : rows.map (·.2) = pls.take i
  ok : ∀ r ∈ rows, nameOk r.1
  asc : (rows.map (·.1)).Pairwise strLt
  n8 : n ≤ 8
  low : n = 0 ∨ m < 2 * i
  all : ∀ r ∈ rows, ∃ m1 n1, r.1 = rep (97 + m1) n1 ∧ 1 ≤ n1 ∧ m1 < 2 * i ∧ 1 ≤ n ∧ (m1 < m ∨ (m1 = m ∧ n1 ≤ n))
theorem Rows.step {i m n m' n' : Nat} {pls : List (List Int)} {rows : List (Str × List Int)} {q : List Int} (h : Rows i m n pls rows) (hi : i < 10) (hq : pls[i]? = some q) (q1 : 1 ≤ n') (q2 : n' ≤ 8) (q3 : m' = m ∧ n' = n + 1 ∧ 1 ≤ n ∨ 2 * i ≤ m' ∧ m' < 2 * i + 2) : Rows (i + 1) m' n' pls (rows ++ [(rep (97 + m') n', q)]) := by
  have lt : ∀ r ∈ rows, strLt r.1 (rep (97 + m') n') := fun r hr => by
    obtain ⟨m1, n1, e, a1, a2, a3, a4⟩ := h.all r hr
    rw [e]
    refine rep_lt a1 q1 ?_
    rcases q3 with ⟨rfl, rfl, _⟩ | ⟨b1, b2⟩
    · rcases a4 with c | ⟨rfl, c⟩
      · exact .inl (by omega)
      · exact .inr ⟨rfl, by omega⟩
    · exact .inl (by omega)
  have m26 : m' < 2 * (i + 1) := by
    have := h.low
    omega
  refine ⟨by rw [List.length_append, h.len]; rfl, ?_, fun r hr => ?_, ?_, q2, .inr m26, fun r hr => ?_⟩
  · rw [List.map_append, h.pl, List.take_succ, hq]; rfl
  · rcases List.mem_append.mp hr with z | z
    · exact h.ok r z
    · rw [List.mem_singleton.mp z]; exact rep_ok (by omega) q1 q2
  · rw [List.map_append]
    refine List.pairwise_append.mpr ⟨h.asc, by simp, fun a ha b hb => ?_⟩
    obtain ⟨r, hr, rfl⟩ := List.mem_map.mp ha
    rw [List.map_cons, List.map_nil, List.mem_singleton] at hb
    rw [hb]
    exact lt r hr
  · rcases List.mem_append.mp hr with z | z
    · obtain ⟨m1, n1, e, a1, a2, a3, a4⟩ := h.all r z
      refine ⟨m1, n1, e, a1, by omega, q1, ?_⟩
      rcases q3 with ⟨rfl, rfl, _⟩ | ⟨b1, b2⟩ <;> omega
    · rw [List.mem_singleton.mp z]
      exact ⟨m', n', rfl, q1, m26, q1, .inr ⟨rfl, Nat.le_refl _⟩⟩
structure FrB (l p : Nat) (total : Nat) (cur : Str) (ρ : Fr) : Prop where
  r0 : ρ[0]? = some (some (.ref l))
  r3 : ρ[3]? = some (some (.int (total : Int)))
  r4 : ρ[4]? = some (some (.ref p))
  r5 : ρ[5]? = some (some (.str SIGNS))
  r8 : ρ[8]? = some (some (.ref (p + 1)))
  r9 : ρ[9]? = some (some (.str cur))
  rl : ρ.length = 12
theorem FrB.set {l p total : Nat} {cur : Str} {ρ : Fr} (h : FrB l p total cur ρ) {i : Nat} {d : D} (hi : i = 6 ∨ i = 7 ∨ i = 10) : FrB l p total cur (ρ.set i (some d)) :=
  ⟨by rw [List.getElem?_set_ne (by omega)]; exact h.r0, by rw [List.getElem?_set_ne (by omega)]; exact h.r3, by rw [List.getElem?_set_ne (by omega)]; exact h.r4, by rw [List.getElem?_set_ne (by omega)]; exact h.r5, by rw [List.getElem?_set_ne (by omega)]; exact h.r8, by rw [List.getElem?_set_ne (by omega)]; exact h.r9, by rw [List.length_set]; exact h.rl⟩
theorem FrB.cur {l p total : Nat} {cur new : Str} {ρ : Fr} (h : FrB l p total cur ρ) : FrB l p total new (ρ.set 9 (some (.str new))) :=
  ⟨by rw [List.getElem?_set_ne (by omega)]; exact h.r0, by rw [List.getElem?_set_ne (by omega)]; exact h.r3, by rw [List.getElem?_set_ne (by omega)]; exact h.r4, by rw [List.getElem?_set_ne (by omega)]; exact h.r5, by rw [List.getElem?_set_ne (by omega)]; exact h.r8, List.getElem?_set_self (by rw [h.rl]; omega), by rw [List.length_set]; exact h.rl⟩
theorem rows_loop {l k total : Nat} {pls : List (List Int)} (w : WF S) (s : Stm l k S) (hk : k + 100 < 2 ^ 60) (h10 : pls.length ≤ 10) {ρ : Fr} (fr : FrB l S.length total (rep (97 + 0) 0) ρ) :
    ∃ (rows : List (Str × List Int)) (m n : Nat) (S1 : Sto) (ρ1 : Fr), sFor (.tp [.nm 6, .nm 7]) (iEnum1 (eVar 4)) rowB ρ (S ++ [.lst (pls.map placeD), .lst []]) = .nx ρ1 (S1 ++ [.lst (pls.map placeD), .lst (rows.map rowD)]) ∧ Rows pls.length m n pls rows ∧ Drawn l (k + 30) S S1 ∧ (∃ cur, FrB l S.length total cur ρ1) := by
  have at_ : ∀ (S1 : Sto) (rows : List D), S1.length = S.length → (S1 ++ [Ob.lst (pls.map placeD), Ob.lst rows])[S.length]? = some (.lst (pls.map placeD)) := fun S1 rows h => by
    rw [← h, List.getElem?_append_right (Nat.le_refl _), Nat.sub_self]; rfl
  have hit : iEnum1 (eVar 4) ρ (S ++ [.lst (pls.map placeD), .lst []]) = .ok (.enum (.ref S.length)) (S ++ [.lst (pls.map placeD), .lst []]) := by
    unfold iEnum1
    rw [x_var fr.r4]
    show enum1 (.ref S.length) (S ++ [.lst (pls.map placeD), .lst []]) = _
    unfold enum1 src1Of
    simp only [at_ S [] rfl, isL, if_true]
  have len : ((pls.map placeD).zipIdx.map fun p => D.tup [.int (p.2 : Int), p.1]).length = pls.length := by simp
  have go := sFor_at (T := .tp [.nm 6, .nm 7]) (it := iEnum1 (eVar 4)) (b := rowB) (ρ := ρ) (S := S ++ [.lst (pls.map placeD), .lst []]) (its := (pls.map placeD).zipIdx.map fun p => D.tup [.int (p.2 : Int), p.1])
    (fun i ρ X => ∃ (rows : List (Str × List Int)) (m n : Nat) (S1 : Sto), X = S1 ++ [.lst (pls.map placeD), .lst (rows.map rowD)] ∧ Rows i m n pls rows ∧ Drawn l (k + 3 * i) S S1 ∧ FrB l S.length total (rep (97 + m) n) ρ)
    (fun r => ∃ (rows : List (Str × List Int)) (m n : Nat) (S1 : Sto) (ρ1 : Fr), r = .nx ρ1 (S1 ++ [.lst (pls.map placeD), .lst (rows.map rowD)]) ∧ Rows pls.length m n pls rows ∧ Drawn l (k + 30) S S1 ∧ (∃ cur, FrB l S.length total cur ρ1))
    hit (by rw [len]; show _ < 1000000; omega) (by
      rintro i ρ X hi ⟨rows, m, n, S1, rfl, R, d, f⟩
      show (at1 (.ref S.length) i _).map _ = _
      unfold at1
      simp only [at_ S1 _ d.len]
      simp only [List.getElem?_map, List.getElem?_zipIdx]
      cases pls[i]? <;> simp)
    ⟨[], 0, 0, S, rfl, ⟨rfl, by simp, by simp, by simp, by omega, .inl rfl, by simp⟩, s.drawn, fr⟩ (by
      rintro i d ρ X hd ⟨rows, m, n, S1, rfl, R, dr, f⟩
      rw [List.getElem?_map, List.getElem?_zipIdx, List.getElem?_map] at hd
      cases hq : pls[i]? with
      | none => rw [hq] at hd; cases hd
      | some q =>
        rw [hq] at hd
        simp at hd
        subst hd
        have hi : i < 10 := by have := (List.getElem?_eq_some_iff.mp hq).1; omega
        have f1 : FrB l S.length total (rep (97 + m) n) ((ρ.set 6 (some (.int (i : Int)))).set 7 (some (placeD q))) := (f.set (.inl rfl)).set (.inr (.inl rfl))
        obtain ⟨m1, m', n', S2, e, q1, q2, q3, d2⟩ := row_body (pls := pls) (q := q) hi (by rw [R.len]; omega) (dr.wf w) (dr.stm s) (by omega) R.n8 R.low f1.r0 f1.r5 (by rw [List.getElem?_set_ne (by decide)]; exact List.getElem?_set_self (by rw [f.rl]; decide)) (List.getElem?_set_self (by rw [List.length_set, f.rl]; decide)) (by rw [dr.len]; exact f1.r8) f1.r9 f1.rl
        refine ⟨_, rfl, ?_⟩
        rw [e]
        refine ⟨_, m', n', S2, rfl, R.step hi hq q1 q2 q3, ?_, (f1.set (.inr (.inr rfl))).cur⟩
        obtain ⟨a, b, c, e3, g⟩ := dr.trans d2
        exact ⟨a, b, c, e3, g.mono (by omega)⟩) (by
      rintro ρ X ⟨rows, m, n, S1, rfl, R, dr, f⟩
      rw [len] at R dr
      obtain ⟨a, b, c, e3, g⟩ := dr
      exact ⟨rows, m, n, S1, ρ, rfl, R, ⟨a, b, c, e3, g.mono (by omega)⟩, _, f⟩)
  exact go
theorem s_par {i j : Nat} {F : EvL} {ρ : Fr} {S1 : Sto} {d e : D} (h : F ρ S = .ok [d, e] S1) : sPar i j F ρ S = .nx ((ρ.set i (some d)).set j (some e)) S1 := by
  unfold sPar; rw [h]; rfl
def AlphNames (A : Alph) : Prop := ∀ r ∈ A.rows, ∃ m n, r.1 = rep (97 + m) n ∧ 1 ≤ n ∧ n ≤ 8 ∧ m < 20
theorem alphabet_ok {l k : Nat} (mo nl : Nat) (hmo : 1 ≤ mo ∧ mo ≤ 5) (hnl : 1 ≤ nl ∧ nl ≤ 10) (w : WF S) (s : Stm l k S) (hk : k + 300 < 2 ^ 60) : ∃ (A : Alph) (S1 : Sto), M.f_law_alphabet [.ref l, .int (mo : Int), .int (nl : Int)] S = .ok A.d S1 ∧ AlphOk A ∧ Drawn l (k + 200) S S1 ∧ AlphNames A := by
  obtain ⟨r, S1, e1, p0, p1, d1⟩ := draw_ok (n := (mo : Int)) w s (by omega) (by omega) (by omega)
  obtain ⟨t, rfl⟩ := Int.eq_ofNat_of_zero_le p0
  have w1 := d1.wf w
  have s1 := d1.stm s
  obtain ⟨r2, S2, e2, p2, p3, d2⟩ := draw_app (T := [.lst []]) (n := (nl : Int)) (WF.app w1 (by simp [lowOb, lowL])) s1 (by omega) (by omega) (by omega)
  obtain ⟨c, rfl⟩ := Int.eq_ofNat_of_zero_le p2
  have w2 := d2.wf w1
  have s2 := d2.stm s1
  -- the frame behind the first three rows
  have tot : (1 : Int) + (t : Int) = ((t + 1 : Nat) : Int) := by push_cast; omega
  have cn : (1 : Int) + (c : Int) = ((c + 1 : Nat) : Int) := by push_cast; omega
  let ρ3 : Fr := [some (.ref l), some (.int (mo : Int)), some (.int (nl : Int)), some (.int ((t + 1 : Nat) : Int)), some (.ref S1.length), some (.str SIGNS), none, none, none, none, none, none]
  have fr : FrA l S2.length (t + 1) ρ3 := ⟨rfl, rfl, by rw [d2.len]; rfl, rfl, rfl⟩
  have hit : iRange1 (eBin .Add (eC (.int 1)) (eCallD M.f_law_draw [] (aCons (eVar 0) (aCons (eVar 2) aNil)))) ρ3 (S1 ++ [.lst []]) = .ok (.one (.fix (rangeD 0 (c + 1)))) (S2 ++ [.lst []]) := by
    refine i_range (x_binK x_c (x_call (x_cons (x_var rfl) (x_cons (x_var rfl) x_nil)) e2) add_ok) ?_
    rw [cn]
    exact range1_ok (by omega)
  obtain ⟨pls, S3, ρ4, e3, l3, o3, d3, f4⟩ := places_loop w2 s2 (by omega) (show 1 ≤ t + 1 by omega) (by omega) (show c + 1 ≤ 10 by omega) fr hit
  have w3 := d3.wf w2
  have s3 := d3.stm s2
  have fb : FrB l S3.length (t + 1) (rep (97 + 0) 0) ((ρ4.set 8 (some (.ref (S3.length + 1)))).set 9 (some (.str (rep (97 + 0) 0)))) :=
    ⟨by rw [List.getElem?_set_ne (by decide), List.getElem?_set_ne (by decide)]; exact f4.r0, by rw [List.getElem?_set_ne (by decide), List.getElem?_set_ne (by decide)]; exact f4.r3, by rw [List.getElem?_set_ne (by decide), List.getElem?_set_ne (by decide), d3.len]; exact f4.r4, by rw [List.getElem?_set_ne (by decide), List.getElem?_set_ne (by decide)]; exact f4.r5,
      by rw [List.getElem?_set_ne (by decide)]; exact List.getElem?_set_self (by rw [f4.rl]; decide), List.getElem?_set_self (by rw [List.length_set, f4.rl]; decide), by rw [List.length_set, List.length_set]; exact f4.rl⟩
  obtain ⟨rows, m, n, S4, ρ5, e4, R, d4, cur, f5⟩ := rows_loop (pls := pls) w3 s3 (by omega) (by omega) fb
  have ok : AlphOk ⟨t + 1, rows⟩ := by
    refine ⟨by show 1 ≤ t + 1; omega, by show t + 1 ≤ 5; omega, by show 1 ≤ rows.length; rw [R.len]; omega, by show rows.length ≤ 10; rw [R.len]; omega, R.ok, fun r hr => ?_, R.asc⟩
    have : r.2 ∈ rows.map (·.2) := List.mem_map.mpr ⟨r, hr, rfl⟩
    rw [R.pl] at this
    exact o3 _ (List.mem_of_mem_take this)
  have dd : Drawn l (k + 200) S S4 := by
    obtain ⟨a, b, c, e, g⟩ := ((d1.trans d2).trans d3).trans d4
    exact ⟨a, b, c, e, g.mono (by omega)⟩
  refine ⟨⟨t + 1, rows⟩, S4, fn_ret rfl ?_ (low_alph _ _) (S1 := S4 ++ [.lst (pls.map placeD), .lst (rows.map rowD)]) ?_ (dd.low w), ok, dd, fun r hr => ?_⟩
  · show M.m_law_alphabet [some (.ref l), some (.int (mo : Int)), some (.int (nl : Int)), none, none, none, none, none, none, none, none, none] S = _
    refine s_seqN (s_set (x_binK x_c (x_call (x_cons (x_var rfl) (x_cons (x_var rfl) x_nil)) e1) add_ok)) ?_
    rw [tot]
    refine s_seqN (s_par (x_cons (x_thaw (x_nLst (x_lLst x_nil (Nat.zero_le _)))) (x_cons x_c x_nil))) (s_seqN e3 ?_)
    have thaw : aCons (eThaw (nLst (lLst aNil))) (aCons (eC (.str "")) aNil) ρ4 (S3 ++ [.lst (pls.map placeD)]) = .ok [.ref (S3.length + 1), .str (rep (97 + 0) 0)] (S3 ++ [.lst (pls.map placeD), .lst []]) := by
      have := x_cons (F := aCons (eC (.str "")) aNil) (x_thaw (ρ := ρ4) (S := S3 ++ [.lst (pls.map placeD)]) (x_nLst (x_lLst x_nil (Nat.zero_le _)))) (x_cons x_c x_nil)
      rw [List.length_append, List.append_assoc] at this
      exact this
    refine s_seqN (s_par thaw) (s_seqN e4 ?_)
    have v8 := f5.r8
    rw [← d4.len] at v8
    have sq : seqOf (S4 ++ [.lst (pls.map placeD), .lst (rows.map rowD)]) (.ref (S4.length + 1)) = some (rows.map rowD) := by
      refine seq_ref ?_
      rw [List.getElem?_append_right (by omega)]
      simp
    exact s_ret (x_tup (x_cons (x_var f5.r3) (x_cons (x_bf (x_cons (x_fix (x_bfN (x_cons (x_var v8) x_nil) (sorted_rows R.asc (by rw [R.len]; omega) sq rfl))) x_nil) tup_lst) x_nil)) (show 2 ≤ sizeLine by decide))
  · rw [← dd.len, List.take_left]
  · obtain ⟨m1, n1, e, a1, a2, _⟩ := R.all r hr
    refine ⟨m1, n1, e, a1, ?_, by omega⟩
    have := (R.ok r hr).2.1
    rw [e, rep_size] at this
    exact this
end
end A1
end
section
set_option Elab.async false
set_option linter.all false
set_option maxRecDepth 100000
set_option maxHeartbeats 4000000
set_option autoImplicit false
/-! plain: the functions that ask first -/
namespace A1
open PySem PL
section
variable {S : Sto}
theorem require_alphabet_ok (w : WF S) {A : Alph} (h : AlphOk A) : M.f_require_alphabet [A.d] S = .ok .non S := by
  refine fn_pureN w rfl (ρ := [some A.d]) ?_
  show M.m_require_alphabet [some A.d] S = _
  exact s_ifF (y_not (y_val (x_call (x_cons (x_var rfl) x_nil) (is_alphabet_ok w h)))) rfl
def IsWord (A : Alph) (x : List Str) : Prop := x.length ≤ 200 ∧ ∀ z ∈ x, z ∈ letters A
theorem word_ty (x : List Str) : (tyS S (wordD x)).isSome = true := rfl
theorem word_tys {x : List Str} (h : x.length ≤ 10000) : ∀ xs, wordD x = .tup xs → xs.length ≤ 10000 ∧ ∀ d ∈ xs, (tyS S d).isSome = true := by
  intro xs e
  cases e
  refine ⟨by rw [List.length_map]; exact h, fun d hd => ?_⟩
  obtain ⟨z, _, rfl⟩ := List.mem_map.mp hd
  rfl
theorem word_yes {A : Alph} {x : List Str} (h : ∀ z ∈ x, z ∈ letters A) : isWordB A (wordD x) = true := by
  show (x.map D.str).all (okL A) = true
  rw [List.all_map]
  exact List.all_eq_true.mpr fun z hz => decide_eq_true (h z hz)
end
end A1
end
section
set_option Elab.async false
set_option linter.all false
set_option maxRecDepth 100000
set_option maxHeartbeats 4000000
set_option autoImplicit false
/-! plain: a word is drawn -/
namespace A1
open PySem PL
section
variable {S : Sto}
theorem word_drawn {l k n : Nat} (w : WF S) (s : Stm l k S) (hk : k + 300 < 2 ^ 60) {A : Alph} (h : AlphOk A) (hn : n ≤ 200) : ∃ (x : List Str) (S1 : Sto), M.f_law_word [.ref l, A.d, .int (n : Int)] S = .ok (wordD x) S1 ∧ IsWord A x ∧ Drawn l (k + n) S S1 := by
  have lc : lLC (.tp [.nm 4, .nm 5]) (iOf (eIx (eVar 1) (eC (.int 1)))) bYes (eVar 4) [4, 5] [some (.ref l), some A.d, some (.int (n : Int)), none, none, none, none] S = .ok (A.rows.map fun r => .str r.1) S :=
    lLC_all (s := .one (.fix (A.rows.map rowD))) (e := rowD) (fun r => .str r.1) (i_of (x_ixK (x_var rfl) x_c ixA1) rfl) rfl (by have := h.r10; omega) fun r _ => ⟨_, rfl, rfl⟩
  have el : (A.rows.map fun r => D.str r.1) = (letters A).map D.str := by simp [letters, Function.comp_def]
  rw [el] at lc
  have len : (rangeD 0 n).length = n := by simp [rangeD]
  have ll : ((letters A).map D.str).length = A.rows.length := by simp [letters]
  obtain ⟨out, X, e, ⟨x, S1, rfl, rfl, d, hx⟩, ol⟩ := lLC_inv (T := .nm 6) (it := iRange1 (eVar 2)) (c := bYes) (f := eCallD M.f_law_pick [] (aCons (eVar 0) (aCons (eVar 3) aNil))) (vs := [6]) (ρ := [some (.ref l), some A.d, some (.int (n : Int)), some (.lst ((letters A).map D.str)), none, none, none]) (S := S) (its := rangeD 0 n)
    (fun i acc X => ∃ (x : List Str) (S1 : Sto), acc = x.map D.str ∧ X = S1 ∧ Drawn l (k + i) S S1 ∧ ∀ z ∈ x, z ∈ letters A) (i_range (x_var rfl) (range1_ok (by omega))) rfl (by rw [len]; exact size_le (by omega))
    ⟨[], S, rfl, rfl, s.drawn, by simp⟩ (by
      rintro i d acc X hd hal ⟨x, S1, rfl, rfl, dr, hx⟩
      obtain ⟨rfl, hlt⟩ := range_at hd
      obtain ⟨y, S2, e, my, d2⟩ := pick_ok (xs := (letters A).map D.str) (dr.wf w) (dr.stm s) (by omega) (by rw [ll]; have := h.r1; omega) (by rw [ll]; have := h.r10; omega) (lowL_map fun _ _ => rfl)
      obtain ⟨z, hz, rfl⟩ := List.mem_map.mp my
      refine ⟨_, true, X, rfl, rfl, by simp, fun _ => ⟨.str z, S2, x_call (x_cons (x_var rfl) (x_cons (x_var rfl) x_nil)) e, x ++ [z], S2, by simp, rfl, dr.trans d2, fun t ht => ?_⟩⟩
      rcases List.mem_append.mp ht with q | q
      · exact hx t q
      · rw [List.mem_singleton.mp q]; exact hz)
  rw [len] at d ol
  rw [List.length_map] at ol
  refine ⟨x, X, fn_ret rfl ?_ (low_word _ _) d.take (d.low w), ⟨by omega, hx⟩, d⟩
  show M.m_law_word [some (.ref l), some A.d, some (.int (n : Int)), none, none, none, none] S = _
  exact s_seqN (s_set (x_fix (x_nLst lc))) (s_ret (x_bf (x_cons (x_fix (x_nLst e)) x_nil) tup_lst))
end
end A1
end
section
set_option Elab.async false
set_option linter.all false
set_option maxRecDepth 100000
set_option maxHeartbeats 4000000
set_option autoImplicit false
/-! plain: the dict of places -/
namespace A1
open PySem PL
def placesD (rows : List (Str × List Int)) : List (D × D) := rows.map fun r => (.str r.1, placeD r.2)
section
variable {S : Sto}
theorem strLt_ne {x y : Str} (h : strLt x y) : x ≠ y := fun e => by
  have h : x.cps.toList < y.cps.toList := h
  rw [e] at h; exact List.lt_irrefl _ h
theorem pairs_rows : ∀ rows : List (Str × List Int), pairsOf (rows.map fun r => D.tup [.str r.1, placeD r.2]) = some (rows.map fun r => (.str r.1, placeD r.2, .inr r.1))
  | [] => rfl
  | r :: rows => by simp only [List.map_cons, pairsOf, keyOf, pairs_rows rows]
theorem merge_rows : ∀ (rows done : List (Str × List Int)), ((done ++ rows).map (·.1)).Pairwise strLt → mergeL (placesD done) (rows.map fun r => (D.str r.1, placeD r.2, .inr r.1)) = placesD (done ++ rows)
  | [], done, _ => by simp [mergeL]
  | r :: rows, done, h => by
    simp only [List.map_cons, mergeL]
    have no : ((placesD done).any fun kv => decide (keyOf kv.1 = some (.inr r.1))) = false := by
      refine List.any_eq_false.mpr fun kv hkv => ?_
      obtain ⟨t, ht, rfl⟩ := List.mem_map.mp hkv
      rw [List.map_append, List.pairwise_append] at h
      have lt := h.2.2 t.1 (List.mem_map.mpr ⟨t, ht, rfl⟩) r.1 (by simp)
      simp only [keyOf, Option.some.injEq, Sum.inr.injEq, decide_eq_true_eq]
      exact strLt_ne lt
    have e : putL (placesD done) (.inr r.1) (.str r.1) (placeD r.2) = placesD (done ++ [r]) := by
      unfold putL
      rw [no, if_neg Bool.false_ne_true]
      simp [placesD]
    rw [e, merge_rows rows (done ++ [r]) (by rw [List.append_assoc]; exact h), List.append_assoc]
    rfl
theorem places_ok (w : WF S) {A : Alph} (h : AlphOk A) : M.f_law_places [A.d] S = .ok (.dct false (placesD A.rows)) S := by
  refine fn_pure w rfl ?_ ?_
  · show M.m_law_places [some A.d, none, none] S = _
    have lc : lLC (.tp [.nm 1, .nm 2]) (iOf (eIx (eVar 0) (eC (.int 1)))) bYes (eTup (aCons (eVar 1) (aCons (eVar 2) aNil))) [1, 2] [some A.d, none, none] S = .ok (A.rows.map fun r => .tup [.str r.1, placeD r.2]) S :=
      lLC_all (e := rowD) (fun r => .tup [.str r.1, placeD r.2]) (it_rows rfl) rfl (by have := h.r10; omega) fun r _ => ⟨[some A.d, some (.str r.1), some (placeD r.2)], rfl, x_tup (x_cons (x_var rfl) (x_cons (x_var rfl) x_nil)) (show 2 ≤ sizeLine by decide)⟩
    refine s_ret (x_fix (ob := .dct false (placesD A.rows)) (x_bfN (x_cons (x_fix (x_nLst lc)) x_nil) ?_))
    have sq : seqOf S (.lst (A.rows.map fun r => D.tup [.str r.1, placeD r.2])) = some (A.rows.map fun r => D.tup [.str r.1, placeD r.2]) := rfl
    have m := merge_rows A.rows [] h.asc
    show dictN [.lst (A.rows.map fun r => D.tup [.str r.1, placeD r.2])] S = _
    unfold dictN
    simp only [sq, Option.bind_some, pairs_rows, isL]
    rw [show placesD [] = [] from rfl] at m
    rw [m]; rfl
  · show lowK S.length (placesD A.rows) = true
    induction A.rows with
    | nil => rfl
    | cons r rows ih =>
      show (low S.length (placeD r.2) && lowK S.length (placesD rows)) = true
      rw [low_place, ih]; rfl
end
end A1
end
section
set_option Elab.async false
set_option linter.all false
set_option maxRecDepth 100000
set_option maxHeartbeats 4000000
set_option autoImplicit false
/-! plain: two places meet -/
namespace A1
open PySem PL
section
variable {S : Sto}
theorem meet_ok (w : WF S) {p q : List Int} (hp : p.length ≤ 10000) : M.f_law_meet [placeD p, placeD q] S = .ok (.bl (!(p.filter fun i => decide (i ∈ q)).isEmpty)) S := by
  refine fn_pure w rfl ?_ rfl
  show M.m_law_meet [some (placeD p), some (placeD q), none] S = _
  have lc : lLC (.nm 2) (iOf (eVar 0)) (bCmp .In (eVar 2) (eVar 1)) (eVar 2) [2] [some (placeD p), some (placeD q), none] S = .ok ((p.filter fun i => decide (i ∈ q)).map D.int) S :=
    lLC_map (s := .one (.fix (p.map D.int))) (e := D.int) (fun i => decide (i ∈ q)) D.int rfl rfl hp fun i _ => ⟨[some (placeD p), some (placeD q), some (.int i)], rfl, y_cmpK (x_var rfl) (x_var rfl) in_ints, fun _ => rfl⟩
  have ne : cmpD .NotEq (.lst ((p.filter fun i => decide (i ∈ q)).map D.int)) (.lst []) S = .ok (.bl (!(p.filter fun i => decide (i ∈ q)).isEmpty)) S := by
    unfold cmpD; rw [ne_nil]; rfl
  exact s_ret (x_cmpK (x_fix (x_nLst lc)) (x_fix (x_nLst (x_lLst x_nil (Nat.zero_le _)))) ne)
end
end A1
end
section
set_option Elab.async false
set_option linter.all false
set_option maxRecDepth 100000
set_option maxHeartbeats 4000000
set_option autoImplicit false
/-! plain: letters that share no process change places -/
namespace A1
open PySem PL
theorem split_two {α : Type} : ∀ {x : List α} {i : Nat} {a b : α}, x[i]? = some a → x[i + 1]? = some b → ∃ l r, x = l ++ a :: b :: r ∧ l.length = i
  | [], _, _, _, h, _ => by simp at h
  | [y], 0, a, b, _, h => by simp at h
  | y :: z :: x, 0, a, b, h1, h2 => by
    simp at h1 h2
    exact ⟨[], x, by rw [h1, h2]; rfl, rfl⟩
  | y :: x, i + 1, a, b, h1, h2 => by
    obtain ⟨l, r, e, hl⟩ := split_two (x := x) (i := i) (a := a) (b := b) (by simpa using h1) (by simpa using h2)
    exact ⟨y :: l, r, by rw [e]; rfl, by simp [hl]⟩
theorem set_two {α : Type} {l r : List α} {a b : α} : ((l ++ a :: b :: r).set l.length b).set (l.length + 1) a = l ++ b :: a :: r := by
  rw [List.set_append_right _ _ (Nat.le_refl _), Nat.sub_self, List.set_cons_zero, List.set_append_right _ _ (by omega), show l.length + 1 - l.length = 1 by omega]
  rfl
theorem filter_two {α : Type} (f : α → Bool) {l r : List α} {a b : α} (h : ¬ (f a = true ∧ f b = true)) : (l ++ b :: a :: r).filter f = (l ++ a :: b :: r).filter f := by
  rw [List.filter_append, List.filter_append]
  congr 1
  cases ha : f a <;> cases hb : f b <;> simp [List.filter_cons, ha, hb]
  exact (h ⟨ha, hb⟩).elim
theorem proj_swap {A : Alph} {x : List Str} {i : Nat} {a b : Str} (hi : x[i]? = some a) (hj : x[i + 1]? = some b) (h : ∀ p, ¬ (a ∈ own A p ∧ b ∈ own A p)) (p : Int) : proj A ((x.set i b).set (i + 1) a) p = proj A x p := by
  obtain ⟨l, r, rfl, rfl⟩ := split_two hi hj
  rw [set_two]
  exact filter_two _ (by simpa using h p)
end A1
end
section
set_option Elab.async false
set_option linter.all false
set_option maxRecDepth 100000
set_option maxHeartbeats 4000000
set_option autoImplicit false
/-! plain: a letter's place -/
namespace A1
open PySem PL
theorem rows_unique : ∀ {rows : List (Str × List Int)}, (rows.map (·.1)).Pairwise strLt → ∀ {r t : Str × List Int}, r ∈ rows → t ∈ rows → r.1 = t.1 → r = t
  | [], _, _, _, h, _, _ => by simp at h
  | y :: rows, hp, r, t, hr, ht, e => by
    rw [List.map_cons] at hp
    have hp := List.pairwise_cons.mp hp
    rcases List.mem_cons.mp hr with q1 | q1 <;> rcases List.mem_cons.mp ht with q2 | q2
    · rw [q1, q2]
    · rw [q1] at e; exact absurd e (strLt_ne (hp.1 _ (List.mem_map.mpr ⟨t, q2, rfl⟩)))
    · rw [q2] at e; exact absurd e.symm (strLt_ne (hp.1 _ (List.mem_map.mpr ⟨r, q1, rfl⟩)))
    · exact rows_unique hp.2 q1 q2 e
theorem own_iff {A : Alph} (h : AlphOk A) {r : Str × List Int} (hr : r ∈ A.rows) (p : Int) : r.1 ∈ own A p ↔ p ∈ r.2 := by
  unfold own
  rw [List.mem_map]
  constructor
  · rintro ⟨t, ht, e⟩
    obtain ⟨h1, h2⟩ := List.mem_filter.mp ht
    rw [← rows_unique h.asc h1 hr e]
    simpa using h2
  · intro hp
    exact ⟨r, List.mem_filter.mpr ⟨hr, by simpa using hp⟩, rfl⟩
section
variable {S : Sto}
theorem look_at : ∀ {rows : List (Str × List Int)}, (rows.map (·.1)).Pairwise strLt → ∀ {r : Str × List Int}, r ∈ rows → lookD (placesD rows) (.inr r.1) = some (placeD r.2)
  | [], _, _, h => by simp at h
  | y :: rows, hp, r, hr => by
    have hu : y.1 = r.1 → y = r := fun e => rows_unique hp (List.mem_cons_self ..) hr e
    rw [List.map_cons] at hp
    have hp := List.pairwise_cons.mp hp
    unfold lookD placesD
    rw [List.map_cons, List.find?_cons]
    by_cases e : y.1 = r.1
    · have e2 : y = r := hu e
      subst e2
      simp [keyOf]
    · have : decide (keyOf (D.str y.1) = some (.inr r.1)) = false := by simp [keyOf, e]
      rw [this]
      rcases List.mem_cons.mp hr with q | q
      · exact absurd (by rw [q]) e
      · exact look_at hp.2 q
theorem place_at {A : Alph} (h : AlphOk A) {x : Str} (hx : x ∈ letters A) : ∃ r ∈ A.rows, r.1 = x ∧ ixD (.dct false (placesD A.rows)) (.str x) S = .ok (placeD r.2) S := by
  obtain ⟨r, hr, rfl⟩ := List.mem_map.mp hx
  refine ⟨r, hr, rfl, ?_⟩
  unfold ixD ixS
  simp only [seqOf, PL.listOf, dgetS, dctOf, keyOf, Option.map_some, look_at h.asc hr]
end
end A1
end
section
set_option Elab.async false
set_option linter.all false
set_option maxRecDepth 100000
set_option maxHeartbeats 4000000
set_option autoImplicit false
/-! plain: equivalent words -/
namespace A1
open PySem PL
section
variable {S : Sto}
abbrev swapB' : St' := sSeq (sSet (.nm 7) (eCallD M.f_law_draw [] (aCons (eVar 0) (aCons (eBin .Sub (eBf lenD (aCons (eVar 2) aNil)) (eC (.int 1))) aNil)))) (sIf (bNot (bVal (eCallD M.f_law_meet [] (aCons (eIx (eVar 4) (eIx (eVar 5) (eVar 7))) (aCons (eIx (eVar 4) (eIx (eVar 5) (eBin .Add (eVar 7) (eC (.int 1))))) aNil))))) (sAsg (gfTup [(gfIx (eVar 5) (eVar 7)), (gfIx (eVar 5) (eBin .Add (eVar 7) (eC (.int 1))))]) (eTup (aCons (eIx (eVar 5) (eBin .Add (eVar 7) (eC (.int 1)))) (aCons (eIx (eVar 5) (eVar 7)) aNil)))) sNext)
theorem put_app {S : Sto} {xs : List D} {j : Nat} {d : D} (hj : j < xs.length) : putS (.ref S.length) (.int (j : Int)) d (S ++ [.lst xs]) = some (S ++ [.lst (xs.set j d)]) := by
  have e : (S ++ [Ob.lst xs])[S.length]? = some (.lst xs) := by rw [List.getElem?_append_right (Nat.le_refl _), Nat.sub_self]; rfl
  rw [put_ref e hj]
  congr 1
  rw [List.set_append_right _ _ (Nat.le_refl _), Nat.sub_self]
  rfl
theorem ix_app {S : Sto} {xs : List D} {j : Nat} {d : D} (hd : xs[j]? = some d) : ixD (.ref S.length) (.int (j : Int)) (S ++ [.lst xs]) = .ok d (S ++ [.lst xs]) := by
  have e : (S ++ [Ob.lst xs])[S.length]? = some (.lst xs) := by rw [List.getElem?_append_right (Nat.le_refl _), Nat.sub_self]; rfl
  exact ix_ref e hd
theorem g_ix {ρ : Fr} {S1 S2 S3 : Sto} {fo fi : Ev} {o i d : D} (h1 : fo ρ S = .ok o S1) (h2 : fi ρ S1 = .ok i S2) (h3 : putS o i d S2 = some S3) : gfIx fo fi d ρ S = .nx ρ S3 := by
  unfold gfIx
  rw [h1]
  show (fi ρ S1).thenS ρ _ = _
  rw [h2]
  show orBadS (putS o i d S2) _ = _
  rw [h3]
  rfl
theorem s_asg2 {ρ : Fr} {S1 S2 S3 : Sto} {f : Ev} {g1 g2 : Gf} {d e : D} (h1 : f ρ S = .ok (.tup [d, e]) S1) (h2 : g1 d ρ S1 = .nx ρ S2) (h3 : g2 e ρ S2 = .nx ρ S3) : sAsg (gfTup [g1, g2]) f ρ S = .nx ρ S3 := by
  unfold sAsg
  rw [h1]
  show (match gfTup [g1, g2] (.tup [d, e]) ρ S1 with
    | .nx ρ1 S2 => Fl.nx ρ1 S2
    | .ex x ρ1 S2 => .ex x ρ1 S2
    | _ => .bad) = _
  have : gfTup [g1, g2] (.tup [d, e]) ρ S1 = .nx ρ S3 := by
    show (if ([d, e] : List D).length = [g1, g2].length then gfs [g1, g2] [d, e] ρ S1 else .bad) = _
    rw [if_pos (show ([d, e] : List D).length = [g1, g2].length from rfl)]
    unfold gfs
    rw [h2]
    show gfs [g2] [e] ρ S2 = _
    unfold gfs
    rw [h3]
    rfl
  rw [this]
structure FrS (l p : Nat) (A : Alph) (w0 : List Str) (ρ : Fr) : Prop where
  r0 : ρ[0]? = some (some (.ref l))
  r2 : ρ[2]? = some (some (wordD w0))
  r4 : ρ[4]? = some (some (.dct false (placesD A.rows)))
  r5 : ρ[5]? = some (some (.ref p))
  rl : ρ.length = 8
theorem FrS.set {l p : Nat} {A : Alph} {w0 : List Str} {ρ : Fr} (h : FrS l p A w0 ρ) {i : Nat} {d : D} (hi : 6 ≤ i) : FrS l p A w0 (ρ.set i (some d)) :=
  ⟨by rw [List.getElem?_set_ne (by omega)]; exact h.r0, by rw [List.getElem?_set_ne (by omega)]; exact h.r2, by rw [List.getElem?_set_ne (by omega)]; exact h.r4, by rw [List.getElem?_set_ne (by omega)]; exact h.r5, by rw [List.length_set]; exact h.rl⟩
/-- one exchange of neighbours, or none -/
def One (A : Alph) (x y : List Str) : Prop := y = x ∨ ∃ i a b, x[i]? = some a ∧ x[i + 1]? = some b ∧ (∀ p, ¬ (a ∈ own A p ∧ b ∈ own A p)) ∧ y = (x.set i b).set (i + 1) a
inductive Swaps (A : Alph) : List Str → List Str → Prop
  | refl (x : List Str) : Swaps A x x
  | step {x y z : List Str} : Swaps A x y → One A y z → Swaps A x z
theorem swap_body {l k : Nat} {A : Alph} (h : AlphOk A) {w0 x : List Str} (h2 : 1 < w0.length) (hx : IsWord A x) (hl : x.length = w0.length) (w : WF S) (s : Stm l k S) (hk : k + 10 < 2 ^ 60) {ρ : Fr} (f : FrS l S.length A w0 ρ) :
    ∃ (y : List Str) (S1 : Sto) (d : D), swapB' ρ (S ++ [.lst (x.map D.str)]) = .nx (ρ.set 7 (some d)) (S1 ++ [.lst (y.map D.str)]) ∧ IsWord A y ∧ y.length = w0.length ∧ (∀ p, proj A y p = proj A x p) ∧ Drawn l (k + 1) S S1 ∧ One A x y := by
  have ht : ∀ ob ∈ [Ob.lst (x.map D.str)], lowOb 0 ob = true := fun ob ho => by rw [List.mem_singleton.mp ho]; exact lowL_map fun _ _ => rfl
  have w100 := hx.1
  obtain ⟨r, S1, e, p0, p1, d⟩ := draw_app (n := (w0.length : Int) - 1) (WF.app w ht) s (by omega) (by omega) (by omega)
  obtain ⟨i, rfl⟩ := Int.eq_ofNat_of_zero_le p0
  have hi : i + 1 < x.length := by omega
  have ea : x[i]? = some x[i] := List.getElem?_eq_getElem (by omega)
  have eb : x[i + 1]? = some x[i + 1] := List.getElem?_eq_getElem hi
  generalize x[i] = a at ea
  generalize x[i + 1] = b at eb
  have ea' : (x.map D.str)[i]? = some (.str a) := by rw [List.getElem?_map, ea]; rfl
  have eb' : (x.map D.str)[i + 1]? = some (.str b) := by rw [List.getElem?_map, eb]; rfl
  have i1 : (i : Int) + 1 = ((i + 1 : Nat) : Int) := by push_cast; omega
  have f7 : FrS l S1.length A w0 (ρ.set 7 (some (.int (i : Int)))) := by rw [d.len]; exact f.set (by decide)
  have v7 : (ρ.set 7 (some (D.int (i : Int))))[7]? = some (some (.int (i : Int))) := List.getElem?_set_self (by rw [f.rl]; decide)
  obtain ⟨ra, ha, na, pa⟩ := place_at (S := S1 ++ [Ob.lst (x.map D.str)]) h (hx.2 a (List.mem_of_getElem? ea))
  obtain ⟨rb, hb, nb, pb⟩ := place_at (S := S1 ++ [Ob.lst (x.map D.str)]) h (hx.2 b (List.mem_of_getElem? eb))
  have w1 : WF (S1 ++ [Ob.lst (x.map D.str)]) := WF.app (d.wf w) ht
  have meet := meet_ok (p := ra.2) (q := rb.2) w1 (by have := (h.places ra ha).2.2.2; omega)
  have st1 : sSet (.nm 7) (eCallD M.f_law_draw [] (aCons (eVar 0) (aCons (eBin .Sub (eBf lenD (aCons (eVar 2) aNil)) (eC (.int 1))) aNil))) ρ (S ++ [.lst (x.map D.str)]) = .nx (ρ.set 7 (some (.int (i : Int)))) (S1 ++ [.lst (x.map D.str)]) :=
    s_set (x_call (x_cons (x_var f.r0) (x_cons (x_binK (x_bf (x_cons (x_var f.r2) x_nil) len_word) x_c sub_ok) x_nil)) e)
  have ga := x_ixK (x_var (S := S1 ++ [Ob.lst (x.map D.str)]) f7.r5) (x_var v7) (ix_app ea')
  have plus : eBin .Add (eVar 7) (eC (.int 1)) (ρ.set 7 (some (.int (i : Int)))) (S1 ++ [Ob.lst (x.map D.str)]) = .ok (.int ((i + 1 : Nat) : Int)) (S1 ++ [Ob.lst (x.map D.str)]) := by rw [← i1]; exact x_binK (x_var v7) x_c add_ok
  have gb := x_ixK (x_var (S := S1 ++ [Ob.lst (x.map D.str)]) f7.r5) plus (ix_app eb')
  have test := y_not (y_val (x_call (fn := M.f_law_meet) (x_cons (x_ixK (x_var f7.r4) ga pa) (x_cons (x_ixK (x_var f7.r4) gb pb) x_nil)) meet))
  by_cases hm : (ra.2.filter fun j => decide (j ∈ rb.2)).isEmpty = true
  · rw [hm] at test
    have apart : ∀ p, ¬ (a ∈ own A p ∧ b ∈ own A p) := fun p ⟨q1, q2⟩ => by
      rw [← na, own_iff h ha] at q1
      rw [← nb, own_iff h hb] at q2
      have : p ∈ ra.2.filter fun j => decide (j ∈ rb.2) := List.mem_filter.mpr ⟨q1, by simpa using q2⟩
      rw [List.isEmpty_iff.mp hm] at this
      cases this
    have plus2 : ∀ ys : List D, eBin .Add (eVar 7) (eC (.int 1)) (ρ.set 7 (some (.int (i : Int)))) (S1 ++ [Ob.lst ys]) = .ok (.int ((i + 1 : Nat) : Int)) (S1 ++ [Ob.lst ys]) := fun ys => by rw [← i1]; exact x_binK (x_var v7) x_c add_ok
    refine ⟨(x.set i b).set (i + 1) a, S1, _, s_seqN st1 (s_ifT test (s_asg2 (x_tup (x_cons gb (x_cons ga x_nil)) (show 2 ≤ sizeLine by decide)) (g_ix (x_var f7.r5) (x_var v7) (put_app (by rw [List.length_map]; omega))) ?_)), ⟨by simpa using hx.1, fun z hz => ?_⟩, by simpa using hl, fun p => proj_swap ea eb apart p, d, .inr ⟨i, a, b, ea, eb, apart, rfl⟩⟩
    · refine (g_ix (x_var f7.r5) (plus2 _) (put_app (by rw [List.length_set, List.length_map]; omega))).trans ?_
      simp
    · rcases List.mem_or_eq_of_mem_set hz with q | q
      · rcases List.mem_or_eq_of_mem_set q with q | q
        · exact hx.2 z q
        · rw [q]; exact hx.2 b (List.mem_of_getElem? eb)
      · rw [q]; exact hx.2 a (List.mem_of_getElem? ea)
  · simp only [Bool.not_eq_true] at hm
    rw [hm] at test
    exact ⟨x, S1, _, s_seqN st1 (s_ifF test rfl), hx, hl, fun _ => rfl, d, .inl rfl⟩
end
end A1
end
section
set_option Elab.async false
set_option linter.all false
set_option maxRecDepth 100000
set_option maxHeartbeats 4000000
set_option autoImplicit false
/-! plain: what repr and == make of plain data -/
namespace A1
open PySem PL
mutual
def pd : D → PyData
  | .non => .none
  | .bl b => .bool b
  | .int i => .int i
  | .str x => .str x
  | .tup xs => .tuple (pdL xs)
  | .lst xs => .list (pdL xs)
  | .scr xs => .list (pdL xs)
  | _ => .none
def pdL : List D → List PyData
  | [] => []
  | x :: xs => pd x :: pdL xs
end
mutual
/-- plain data of depth n at most, short leaves -/
def nice : Nat → D → Prop
  | _, .non => True
  | _, .bl _ => True
  | _, .int i => i.natAbs < 10 ^ 12
  | _, .str x => ∀ c ∈ x.cps.toList, c < 1114112
  | 0, _ => False
  | n + 1, .tup xs => niceL n xs
  | n + 1, .lst xs => niceL n xs
  | _, _ => False
def niceL : Nat → List D → Prop
  | _, [] => True
  | n, x :: xs => nice n x ∧ niceL n xs
end
theorem niceL_iff {n : Nat} : ∀ {xs : List D}, niceL n xs ↔ ∀ d ∈ xs, nice n d
  | [] => by simp [niceL]
  | x :: xs => by simp [niceL, niceL_iff (xs := xs)]
theorem pdL_map : ∀ {xs : List D}, pdL xs = xs.map pd
  | [] => by simp [pdL]
  | x :: xs => by simp [pdL, pdL_map (xs := xs)]
mutual
theorem nice_mono : ∀ {n : Nat} {d : D}, nice n d → nice (n + 1) d
  | n, .non, _ => by cases n <;> simp [nice]
  | n, .bl _, _ => by cases n <;> simp [nice]
  | n, .int _, h => by cases n <;> simpa [nice] using h
  | n, .str _, h => by cases n <;> simpa [nice] using h
  | n + 1, .tup _, h => by simp only [nice] at h ⊢; exact niceL_mono h
  | n + 1, .lst _, h => by simp only [nice] at h ⊢; exact niceL_mono h
  | 0, .tup _, h => by simp [nice] at h
  | 0, .lst _, h => by simp [nice] at h
  | n, .scr _, h => by cases n <;> simp [nice] at h
  | n, .dct _ _, h => by cases n <;> simp [nice] at h
  | n, .ins _ _, h => by cases n <;> simp [nice] at h
  | n, .ref _, h => by cases n <;> simp [nice] at h
  | n, .glo _, h => by cases n <;> simp [nice] at h
  | n, .ty _, h => by cases n <;> simp [nice] at h
theorem niceL_mono : ∀ {n : Nat} {xs : List D}, niceL n xs → niceL (n + 1) xs
  | _, [], _ => by simp [niceL]
  | _, x :: xs, h => by simp only [niceL] at h ⊢; exact ⟨nice_mono h.1, niceL_mono h.2⟩
end
theorem nice_le {n m : Nat} (h : n ≤ m) {d : D} (q : nice n d) : nice m d := by
  induction h with
  | refl => exact q
  | step _ ih => exact nice_mono ih
mutual
theorem py_nice {S : Sto} : ∀ {n : Nat} {d : D}, nice n d → toPyN S n d = some (pd d)
  | n, .non, _ => by cases n <;> simp [toPyN, pd]
  | n, .bl _, _ => by cases n <;> simp [toPyN, pd]
  | n, .int _, _ => by cases n <;> simp [toPyN, pd]
  | n, .str _, _ => by cases n <;> simp [toPyN, pd]
  | n + 1, .tup _, h => by simp only [nice] at h; simp [toPyN, pd, pyL_nice h]
  | n + 1, .lst _, h => by simp only [nice] at h; simp [toPyN, pd, pyL_nice h]
  | 0, .tup _, h => by simp [nice] at h
  | 0, .lst _, h => by simp [nice] at h
  | n, .scr _, h => by cases n <;> simp [nice] at h
  | n, .dct _ _, h => by cases n <;> simp [nice] at h
  | n, .ins _ _, h => by cases n <;> simp [nice] at h
  | n, .ref _, h => by cases n <;> simp [nice] at h
  | n, .glo _, h => by cases n <;> simp [nice] at h
  | n, .ty _, h => by cases n <;> simp [nice] at h
theorem pyL_nice {S : Sto} : ∀ {n : Nat} {xs : List D}, niceL n xs → optAll (toPyN S n) xs = some (pdL xs)
  | _, [], _ => by simp [optAll, pdL]
  | _, x :: xs, h => by simp only [niceL] at h; simp only [optAll, py_nice h.1, pyL_nice h.2, pdL]
end
theorem int_show {i : Int} (h : i.natAbs < 10 ^ 12) : i.natAbs.log2 < 1920 := by
  by_cases z : i.natAbs = 0
  · rw [z]; decide
  · have := (Nat.log2_lt (n := i.natAbs) (k := 40) z).mpr (Nat.lt_trans h (by decide))
    omega
mutual
theorem show_nice : ∀ {n : Nat} {d : D}, nice n d → (pd d).showable = true ∧ (pd d).leavesShort 13 = true ∧ (pd d).hasDict = false
  | n, .non, _ => by simp [pd, PyData.showable, PyData.leavesShort, PyData.hasDict]
  | n, .bl _, _ => by simp [pd, PyData.showable, PyData.leavesShort, PyData.hasDict]
  | n, .int i, h => by
    have h : i.natAbs < 10 ^ 12 := by cases n <;> simpa [nice] using h
    simp only [pd, PyData.showable, PyData.leavesShort, PyData.hasDict, decide_eq_true_eq]
    exact ⟨int_show h, PyData.shown_int_le h, trivial⟩
  | n, .str x, h => by
    have h : ∀ c ∈ x.cps.toList, c < 1114112 := by cases n <;> simpa [nice] using h
    simp only [pd, PyData.showable, PyData.leavesShort, PyData.hasDict, List.all_eq_true, decide_eq_true_eq]
    exact ⟨trivial, fun c hc => Nat.lt_trans (h c hc) (by decide), trivial⟩
  | n + 1, .tup _, h => by
    simp only [nice] at h
    simp only [pd, PyData.showable, PyData.leavesShort, PyData.hasDict]
    exact showL_nice h
  | n + 1, .lst _, h => by
    simp only [nice] at h
    simp only [pd, PyData.showable, PyData.leavesShort, PyData.hasDict]
    exact showL_nice h
  | 0, .tup _, h => by simp [nice] at h
  | 0, .lst _, h => by simp [nice] at h
  | n, .scr _, h => by cases n <;> simp [nice] at h
  | n, .dct _ _, h => by cases n <;> simp [nice] at h
  | n, .ins _ _, h => by cases n <;> simp [nice] at h
  | n, .ref _, h => by cases n <;> simp [nice] at h
  | n, .glo _, h => by cases n <;> simp [nice] at h
  | n, .ty _, h => by cases n <;> simp [nice] at h
theorem showL_nice : ∀ {n : Nat} {xs : List D}, niceL n xs → PyData.showableAll (pdL xs) = true ∧ PyData.leavesShortAll 13 (pdL xs) = true ∧ PyData.hasDictAll (pdL xs) = false
  | _, [], _ => by simp [pdL, PyData.showableAll, PyData.leavesShortAll, PyData.hasDictAll]
  | _, x :: xs, h => by
    simp only [niceL] at h
    obtain ⟨a1, a2, a3⟩ := show_nice h.1
    obtain ⟨b1, b2, b3⟩ := showL_nice h.2
    simp [pdL, PyData.showableAll, PyData.leavesShortAll, PyData.hasDictAll, a1, a2, a3, b1, b2, b3]
end
def wt (d : D) : Nat := (pd d).weight
def reprS (d : D) : Str := (pd d).shown
theorem repr_ok {S : Sto} {d : D} (h : nice 10 d) (hw : wt d ≤ 2 ^ 20) : reprD [d] S = .ok (.str (reprS d)) S := by
  have e := toPyN_imp 60 d _ (py_nice (S := S) (nice_le (show 10 ≤ 60 by decide) h))
  obtain ⟨h1, h2, h3⟩ := show_nice h
  unfold reprD
  simp only [e]
  have ok : reprOk (pd d) = true := by
    unfold reprOk
    rw [h1, h3, decide_eq_true (PyData.shown_fits (by decide) (by decide) h2 hw)]
    rfl
  rw [if_pos ok]
  rfl
theorem eq_nice {S : Sto} {d e : D} (h : nice 10 d) (g : nice 10 e) : eqS S d e = some (PyData.eqv (pd d) (pd e)) := by
  unfold eqS py
  rw [py_nice (nice_le (show 10 ≤ 60 by decide) h), py_nice (nice_le (show 10 ≤ 60 by decide) g)]
theorem eqv_str {x y : Str} : PyData.eqv (.str x) (.str y) = decide (x = y) := by
  by_cases h : x = y <;> simp [PyData.eqv, h]
theorem ne_str {S : Sto} {x y : Str} : cmpR .NotEq (.str x) (.str y) S = .ok (!decide (x = y)) S := by
  have : eqS S (.str x) (.str y) = some (decide (x = y)) := by
    show some (PyData.eqv (.str x) (.str y)) = _
    rw [eqv_str]
  simp [cmpR, cmpS, this]
theorem eq_str {S : Sto} {x y : Str} : cmpR .Eq (.str x) (.str y) S = .ok (decide (x = y)) S := by
  have : eqS S (.str x) (.str y) = some (decide (x = y)) := by
    show some (PyData.eqv (.str x) (.str y)) = _
    rw [eqv_str]
  simp [cmpR, cmpS, this]
theorem eq_strD {S : Sto} {x y : Str} : cmpD .Eq (.str x) (.str y) S = .ok (.bl (decide (x = y))) S := by
  unfold cmpD; rw [eq_str]; rfl
/-! weights -/
theorem wt_int {i : Int} (h : i.natAbs < 10 ^ 12) : wt (.int i) ≤ 41 := by
  simp only [wt, pd, PyData.weight]
  split
  · omega
  · have := (Nat.log2_lt (n := i.natAbs) (k := 40) (by rename_i z; simp at z; omega)).mpr (Nat.lt_trans h (by decide))
    omega
theorem wt_non : wt .non = 0 := by simp [wt, pd, PyData.weight]
theorem wt_bl (b : Bool) : wt (.bl b) = 0 := by simp [wt, pd, PyData.weight]
theorem wt_str (x : Str) : wt (.str x) = x.cps.size := by simp [wt, pd, PyData.weight]
def wtL (xs : List D) : Nat := PyData.weightAll (pdL xs)
theorem wt_tup (xs : List D) : wt (.tup xs) = wtL xs := by simp [wt, wtL, pd, PyData.weight]
theorem wt_lst (xs : List D) : wt (.lst xs) = wtL xs := by simp [wt, wtL, pd, PyData.weight]
theorem wtL_nil : wtL [] = 0 := by simp [wtL, pdL, PyData.weightAll]
theorem wtL_cons (x : D) (xs : List D) : wtL (x :: xs) = wt x + 1 + wtL xs := by simp [wtL, wt, pdL, PyData.weightAll]
theorem wtL_app : ∀ (xs ys : List D), wtL (xs ++ ys) = wtL xs + wtL ys
  | [], ys => by simp [wtL_nil]
  | x :: xs, ys => by rw [List.cons_append, wtL_cons, wtL_cons, wtL_app xs ys]; omega
theorem wtL_map {α : Type} {f : α → D} {b : Nat} : ∀ {xs : List α}, (∀ x ∈ xs, wt (f x) ≤ b) → wtL (xs.map f) ≤ xs.length * (b + 1)
  | [], _ => by simp [wtL_nil]
  | x :: xs, h => by
    have h1 := h x (List.mem_cons_self ..)
    have h2 := wtL_map (xs := xs) fun y hy => h y (List.mem_cons_of_mem _ hy)
    rw [List.map_cons, wtL_cons, List.length_cons, Nat.succ_mul]
    omega
theorem niceL_map {α : Type} {f : α → D} {n : Nat} {xs : List α} (h : ∀ x ∈ xs, nice n (f x)) : niceL n (xs.map f) := niceL_iff.mpr fun d hd => by
  obtain ⟨x, hx, rfl⟩ := List.mem_map.mp hd
  exact h x hx
theorem nice_int {n : Nat} {i : Int} (h : i.natAbs < 10 ^ 12) : nice n (.int i) := by cases n <;> simpa [nice] using h
theorem nice_str {n : Nat} {x : Str} (h : ∀ c ∈ x.cps.toList, c < 1114112) : nice n (.str x) := by cases n <;> simpa [nice] using h
end A1
end
section
set_option Elab.async false
set_option linter.all false
set_option maxRecDepth 100000
set_option maxHeartbeats 4000000
set_option autoImplicit false
/-! plain: the projections are right -/
namespace A1
open PySem PL
theorem name_code {x : Str} (h : nameOk x) : ∀ c ∈ x.cps.toList, c < 123 := fun c hc => by
  have := h.2.2 c hc
  rw [signs_list] at this
  obtain ⟨j, hj, rfl⟩ := List.mem_map.mp this
  have := List.mem_range.mp hj
  omega
theorem letter_nice {A : Alph} (h : AlphOk A) {z : Str} (hz : z ∈ letters A) (n : Nat) : nice n (.str z) ∧ wt (.str z) ≤ 8 := by
  obtain ⟨r, hr, rfl⟩ := List.mem_map.mp hz
  have hn := h.names r hr
  refine ⟨nice_str fun c hc => Nat.lt_trans (name_code hn c hc) (by decide), ?_⟩
  rw [wt_str]; exact hn.2.1
theorem word_nice {A : Alph} (h : AlphOk A) {x : List Str} (hx : IsWord A x) (n : Nat) : nice (n + 1) (wordD x) ∧ wt (wordD x) ≤ 1800 := by
  refine ⟨?_, ?_⟩
  · simp only [wordD, nice]
    exact niceL_map fun z hz => (letter_nice h (hx.2 z hz) n).1
  · rw [wordD, wt_tup]
    have := wtL_map (f := D.str) (b := 8) fun z hz => (letter_nice h (hx.2 z hz) 0).2
    have := hx.1
    omega
theorem place_nice {many : Nat} {p : List Int} (h : placeOk many p) (hm : many ≤ 5) (n : Nat) : nice (n + 1) (placeD p) ∧ wt (placeD p) ≤ 210 := by
  obtain ⟨h1, h2, h3, h4⟩ := h
  have sm : ∀ i ∈ p, i.natAbs < 10 ^ 12 := fun i hi => by
    have := h2 i hi
    exact Nat.lt_trans (show i.natAbs < 6 by omega) (by decide)
  refine ⟨?_, ?_⟩
  · simp only [placeD, nice]
    exact niceL_map fun z hz => nice_int (sm z hz)
  · rw [placeD, wt_tup]
    have := wtL_map (f := D.int) (b := 41) fun z hz => wt_int (sm z hz)
    omega
theorem alph_nice {A : Alph} (h : AlphOk A) (n : Nat) : nice (n + 4) A.d ∧ wt A.d ≤ 3000 := by
  have hm := h.m5
  have mm : (A.many : Int).natAbs < 10 ^ 12 := Nat.lt_trans (show (A.many : Int).natAbs < 6 by omega) (by decide)
  have row : ∀ r ∈ A.rows, nice (n + 2) (rowD r) ∧ wt (rowD r) ≤ 220 := fun r hr => by
    have hl : r.1 ∈ letters A := List.mem_map.mpr ⟨r, hr, rfl⟩
    obtain ⟨a1, a2⟩ := place_nice (h.places r hr) hm n
    obtain ⟨b1, b2⟩ := letter_nice h hl (n + 1)
    refine ⟨by simp only [rowD, nice, niceL]; exact ⟨b1, a1, trivial⟩, ?_⟩
    rw [rowD, wt_tup, wtL_cons, wtL_cons, wtL_nil]
    omega
  refine ⟨?_, ?_⟩
  · simp only [Alph.d, nice, niceL]
    exact ⟨mm, niceL_map fun r hr => (row r hr).1, trivial⟩
  · rw [Alph.d, wt_tup, wtL_cons, wtL_cons, wtL_nil, wt_tup]
    have := wtL_map (f := rowD) (b := 220) fun r hr => (row r hr).2
    have := wt_int mm
    have := h.r10
    omega
theorem proj_word {A : Alph} {x : List Str} (hx : IsWord A x) (p : Int) : IsWord A (proj A x p) :=
  ⟨Nat.le_trans (List.length_filter_le ..) hx.1, fun z hz => hx.2 z ((List.mem_filter.mp hz).1)⟩
section
variable {S : Sto}
/-- a comprehension over what the store holds, whose parts touch nothing -/
theorem lc_at {α : Type} {T : Tg} {f : Ev} {s : Src} {xs : List α} {e : α → D} {ρ : Fr} {g : α → D} (hi : ∀ i, itemAt s i S = some ((xs.map e)[i]?))
    (h : ∀ x ∈ xs, ∃ ρ1, setT T (e x) ρ = some ρ1 ∧ f ρ1 S = .ok (g x) S) : ∀ (n i : Nat) (acc : List D), xs.length - i < n → acc.length ≤ i → xs.length ≤ sizeLine →
      runLC T bYes f s n i ρ acc S = .ok (acc ++ (xs.drop i).map g) S := by
  intro n
  induction n with
  | zero => intro i acc h0; omega
  | succ n ih =>
    intro i acc h0 h1 h2
    unfold runLC
    rw [hi]
    by_cases hlt : i < xs.length
    · have e1 : (xs.map e)[i]? = some (e xs[i]) := by rw [List.getElem?_map, List.getElem?_eq_getElem hlt]; rfl
      have ed : xs.drop i = xs[i] :: xs.drop (i + 1) := List.drop_eq_getElem_cons hlt
      rw [e1]
      obtain ⟨ρ1, e1, e3⟩ := h xs[i] (List.getElem_mem hlt)
      simp only [e1, bYes, e3]
      have hl : lenFits (acc.length + 1) = true := by unfold lenFits; exact decide_eq_true (by omega)
      rw [if_pos hl, ih (i + 1) _ (by omega) (by simp; omega) h2, ed, List.map_cons, List.append_assoc]
      rfl
    · have e1 : (xs.map e)[i]? = none := List.getElem?_eq_none (by simp; omega)
      rw [e1, List.drop_eq_nil_of_le (by omega)]
      simp
theorem lLC_at {α : Type} {T : Tg} {it : EvS} {f : Ev} {vs : List Nat} {s : Src} {xs : List α} {e : α → D} {ρ : Fr} (g : α → D) (hit : it ρ S = .ok s S) (hi : ∀ i, itemAt s i S = some ((xs.map e)[i]?)) (hf : xs.length < srcFuel s) (hl : xs.length ≤ 10000)
    (h : ∀ x ∈ xs, ∃ ρ1, setT T (e x) (wipeR ρ vs) = some ρ1 ∧ f ρ1 S = .ok (g x) S) : lLC T it bYes f vs ρ S = .ok (xs.map g) S := by
  unfold lLC
  rw [hit]
  show runLC T bYes f s (srcFuel s) 0 (wipeR ρ vs) [] S = _
  rw [lc_at hi h (srcFuel s) 0 [] (by omega) (Nat.le_refl _) (Nat.le_trans hl (by decide))]
  simp
theorem at_app {S : Sto} {ob : Ob} : (S ++ [ob])[S.length]? = some ob := by
  rw [List.getElem?_append_right (Nat.le_refl _), Nat.sub_self]; rfl
theorem src_ref {l : Nat} {xs : List D} (h : S[l]? = some (.lst xs)) : srcOf (.ref l) S = .ok (.one (.ref l)) S := by
  unfold srcOf src1Of
  simp only [h]
theorem items_ref {l : Nat} {xs : List D} (h : S[l]? = some (.lst xs)) (i : Nat) : itemAt (.one (.ref l)) i S = some xs[i]? := by
  unfold itemAt at1
  simp only [h]
theorem ty_refL {l : Nat} {xs : List D} (h : S[l]? = some (.lst xs)) : tyS S (.ref l) = some "list" := by
  simp only [tyS, h]
theorem is_true : cmpD .Is (.bl true) (.bl true) S = .ok (.bl true) S := rfl
abbrev lineD (A : Alph) (x : List Str) (j : Nat) : D := wordD (proj A x (j : Int))
abbrev rightF (A : Alph) (x : List Str) (p : Nat) (o : Option D) : Fr := [some A.d, some (wordD x), some (.dct false (placesD A.rows)), some (.ref p), o, none, none, none]
end
end A1
end
section
set_option Elab.async false
set_option linter.all false
set_option maxRecDepth 100000
set_option maxHeartbeats 4000000
set_option autoImplicit false
/-! plain: the smallest letter that nothing is before -/
namespace A1
open PySem PL
theorem first_at {α : Type} {c : α} : ∀ {w : List α}, c ∈ w → ∃ l r, w = l ++ c :: r ∧ c ∉ l
  | [], h => by cases h
  | y :: w, h => by
    by_cases e : c = y
    · subst e; exact ⟨[], w, rfl, by simp⟩
    · rcases List.mem_cons.mp h with q | q
      · exact absurd q e
      · obtain ⟨l, r, rfl, hl⟩ := first_at q
        exact ⟨y :: l, r, rfl, fun z => by
          rcases List.mem_cons.mp z with q | q
          · exact e q
          · exact hl q⟩
theorem head_mem {α : Type} {c : α} {w : List α} (h : w.head? = some c) : c ∈ w := by
  cases w with
  | nil => cases h
  | cons a w => cases h; simp
/-- a letter's place -/
def plc (A : Alph) (z : Str) : List Int := ((A.rows.find? fun r => decide (r.1 = z)).map (·.2)).getD []
theorem plc_row {A : Alph} (h : AlphOk A) {r : Str × List Int} (hr : r ∈ A.rows) : plc A r.1 = r.2 := by
  unfold plc
  cases e : A.rows.find? fun t => decide (t.1 = r.1) with
  | none =>
    have := List.find?_eq_none.mp e r hr
    simp at this
  | some t =>
    have h1 := List.mem_of_find?_eq_some e
    have h2 := List.find?_some e
    have h2 : t.1 = r.1 := by simpa using h2
    rw [rows_unique h.asc h1 hr h2]; rfl
theorem plc_own {A : Alph} (h : AlphOk A) {z : Str} (hz : z ∈ letters A) (p : Int) : z ∈ own A p ↔ p ∈ plc A z := by
  obtain ⟨r, hr, rfl⟩ := List.mem_map.mp hz
  rw [own_iff h hr, plc_row h hr]
theorem plc_ne {A : Alph} (h : AlphOk A) {z : Str} (hz : z ∈ letters A) : plc A z ≠ [] := by
  obtain ⟨r, hr, rfl⟩ := List.mem_map.mp hz
  rw [plc_row h hr]
  exact (h.places r hr).1
theorem plc_len {A : Alph} (h : AlphOk A) {z : Str} (hz : z ∈ letters A) : (plc A z).length ≤ 5 := by
  obtain ⟨r, hr, rfl⟩ := List.mem_map.mp hz
  rw [plc_row h hr]
  exact (h.places r hr).2.2.2
theorem plc_in {A : Alph} (h : AlphOk A) {z : Str} (hz : z ∈ letters A) : ∀ p ∈ plc A z, 0 ≤ p ∧ p ≤ (A.many : Int) - 1 := by
  obtain ⟨r, hr, rfl⟩ := List.mem_map.mp hz
  rw [plc_row h hr]
  exact (h.places r hr).2.1
section
variable {A : Alph}
/-- do two places share a process -/
def shareB (p q : List Int) : Bool := !(p.filter fun i => decide (i ∈ q)).isEmpty
theorem share_iff {p q : List Int} : shareB p q = true ↔ ∃ i ∈ p, i ∈ q := by
  unfold shareB
  simp only [Bool.not_eq_true', List.isEmpty_eq_false_iff_exists_mem, List.mem_filter, decide_eq_true_eq]
theorem share_iffN {p q : List Int} : shareB p q = false ↔ ∀ i ∈ p, i ∉ q := by
  rw [← Bool.not_eq_true, share_iff]
  simp
/-- the letters that nothing is before, with their positions, from position i on; tk: the processes taken -/
def freeF (A : Alph) : List Int → Nat → List Str → List (Str × Nat)
  | _, _, [] => []
  | tk, i, z :: w => (if shareB (plc A z) tk = true then [] else [(z, i)]) ++ freeF A (tk ++ plc A z) (i + 1) w
theorem freeF_app {tk : List Int} {i : Nat} : ∀ {l r : List Str}, freeF A tk i (l ++ r) = freeF A tk i l ++ freeF A (tk ++ l.flatMap (plc A)) (i + l.length) r
  | [], r => by simp [freeF]
  | z :: l, r => by
    simp only [List.cons_append, freeF, freeF_app (l := l), List.flatMap_cons, List.length_cons, List.append_assoc, Nat.add_assoc, Nat.add_comm 1 l.length]
/-- what a free letter is -/
theorem freeF_mem {z : Str} {j : Nat} : ∀ {w : List Str} {tk : List Int} {i : Nat}, (z, j) ∈ freeF A tk i w ↔ ∃ l r, w = l ++ z :: r ∧ j = i + l.length ∧ ∀ p ∈ plc A z, p ∉ tk ∧ ∀ y ∈ l, p ∉ plc A y
  | [], tk, i => by simp [freeF]
  | y :: w, tk, i => by
    rw [freeF, List.mem_append, freeF_mem (w := w)]
    constructor
    · rintro (h | ⟨l, r, rfl, rfl, hp⟩)
      · split at h
        · cases h
        · rename_i hs
          rw [List.mem_singleton] at h
          cases h
          rw [Bool.not_eq_true, share_iffN] at hs
          exact ⟨[], w, rfl, rfl, fun p hp => ⟨hs p hp, by simp⟩⟩
      · refine ⟨y :: l, r, rfl, by simp; omega, fun p h => ?_⟩
        obtain ⟨h1, h2⟩ := hp p h
        rw [List.mem_append, not_or] at h1
        refine ⟨h1.1, fun x hx => ?_⟩
        rcases List.mem_cons.mp hx with q | q
        · rw [q]; exact h1.2
        · exact h2 x q
    · rintro ⟨l, r, e, rfl, hp⟩
      cases l with
      | nil =>
        rw [List.nil_append] at e
        cases e
        left
        rw [if_neg (by rw [Bool.not_eq_true, share_iffN]; exact fun p h => (hp p h).1)]
        simp
      | cons x l =>
        rw [List.cons_append] at e
        cases e
        right
        refine ⟨l, r, rfl, by simp; omega, fun p h => ?_⟩
        obtain ⟨h1, h2⟩ := hp p h
        exact ⟨by rw [List.mem_append, not_or]; exact ⟨h1, h2 y (by simp)⟩, fun x hx => h2 x (List.mem_cons_of_mem _ hx)⟩
abbrev freeL (A : Alph) (w : List Str) : List (Str × Nat) := freeF A [] 0 w
/-- letters of a word, as the projections see them -/
theorem proj_app {l r : List Str} {p : Int} : proj A (l ++ r) p = proj A l p ++ proj A r p := by simp [proj]
theorem proj_none {l : List Str} {p : Int} (h : AlphOk A) (hl : ∀ z ∈ l, z ∈ letters A) (hp : ∀ y ∈ l, p ∉ plc A y) : proj A l p = [] := by
  unfold proj
  refine List.filter_eq_nil_iff.mpr fun y hy => ?_
  rw [decide_eq_true_eq, plc_own h (hl y hy)]
  exact hp y hy
theorem proj_yes {z : Str} {r : List Str} {p : Int} (h : AlphOk A) (hz : z ∈ letters A) (hp : p ∈ plc A z) : proj A (z :: r) p = z :: proj A r p := by
  unfold proj
  rw [List.filter_cons_of_pos (by rw [decide_eq_true_eq, plc_own h hz]; exact hp)]
theorem proj_no {z : Str} {r : List Str} {p : Int} (h : AlphOk A) (hz : z ∈ letters A) (hp : p ∉ plc A z) : proj A (z :: r) p = proj A r p := by
  unfold proj
  rw [List.filter_cons_of_neg (by rw [decide_eq_true_eq, plc_own h hz]; exact hp)]
/-- a free letter stands first at its processes; taken out, they go on -/
theorem free_head (h : AlphOk A) {w : List Str} (hw : ∀ z ∈ w, z ∈ letters A) {z : Str} {j : Nat} (hf : (z, j) ∈ freeL A w) : w[j]? = some z ∧ z ∈ letters A ∧ ∀ p, proj A w p = if p ∈ plc A z then z :: proj A (w.eraseIdx j) p else proj A (w.eraseIdx j) p := by
  obtain ⟨l, r, rfl, e, hp⟩ := freeF_mem.mp hf
  rw [Nat.zero_add] at e
  subst e
  have hz : z ∈ letters A := hw z (by simp)
  have er : (l ++ z :: r).eraseIdx l.length = l ++ r := by
    rw [List.eraseIdx_append_of_length_le (Nat.le_refl _), Nat.sub_self]; rfl
  refine ⟨by simp, hz, fun p => ?_⟩
  rw [er, proj_app, proj_app]
  split
  · rename_i hz'
    have hl : proj A l p = [] := proj_none h (fun y hy => hw y (by simp [hy])) (hp p hz').2
    rw [hl, proj_yes h hz hz']
    rfl
  · rename_i hz'
    rw [proj_no h hz hz']
/-- a letter that stands first at all its processes is free -/
theorem head_free (h : AlphOk A) {w : List Str} (hw : ∀ z ∈ w, z ∈ letters A) {c : Str} (hc : c ∈ letters A) (hp : ∀ p ∈ plc A c, (proj A w p).head? = some c) : ∃ j, (c, j) ∈ freeL A w := by
  have hcw : c ∈ w := by
    cases e : plc A c with
    | nil => exact absurd e (plc_ne h hc)
    | cons p ps =>
      have := head_mem (hp p (by rw [e]; simp))
      exact (List.mem_filter.mp this).1
  obtain ⟨l, r, e, hl⟩ := first_at hcw
  subst e
  refine ⟨0 + l.length, freeF_mem.mpr ⟨l, r, rfl, rfl, fun p hpc => ⟨by simp, fun y hy hpy => ?_⟩⟩⟩
  have hd := hp p hpc
  rw [proj_app] at hd
  have ne : proj A l p ≠ [] := fun z => by
    have : y ∈ proj A l p := List.mem_filter.mpr ⟨hy, by rw [decide_eq_true_eq, plc_own h (hw y (by simp [hy]))]; exact hpy⟩
    rw [z] at this; cases this
  have hd : (proj A l p).head? = some c := by
    cases q : proj A l p with
    | nil => exact absurd q ne
    | cons a b => rw [q] at hd; exact hd
  exact hl (List.mem_filter.mp (head_mem hd)).1
end
end A1
end
section
set_option Elab.async false
set_option linter.all false
set_option maxRecDepth 100000
set_option maxHeartbeats 4000000
set_option autoImplicit false
/-! plain: the least word -/
namespace A1
open PySem PL
/-- pairs ordered as tuples are -/
def ltP (a b : Str × Nat) : Prop := strLt a.1 b.1 ∨ (a.1 = b.1 ∧ a.2 < b.2)
instance (a b : Str × Nat) : Decidable (ltP a b) := inferInstanceAs (Decidable (_ ∨ _))
theorem strLt_irrefl {x : Str} : ¬ strLt x x := fun h => strLt_ne h rfl
theorem strLt_trans {x y z : Str} (h : strLt x y) (g : strLt y z) : strLt x z := List.lt_trans (α := Nat) h g
theorem str_eq {x y : Str} (h : x.cps.toList = y.cps.toList) : x = y := by
  cases x; cases y
  simp only [Str.mk.injEq]
  exact Array.toList_inj.mp h
theorem strLt_total (x y : Str) : strLt x y ∨ x = y ∨ strLt y x := by
  by_cases h : strLt x y
  · exact .inl h
  · by_cases g : strLt y x
    · exact .inr (.inr g)
    · have h : ¬ x.cps.toList < y.cps.toList := h
      have g : ¬ y.cps.toList < x.cps.toList := g
      exact .inr (.inl (str_eq (List.le_antisymm (List.not_lt.mp g) (List.not_lt.mp h))))
theorem ltP_trans {a b c : Str × Nat} (h : ltP a b) (g : ltP b c) : ltP a c := by
  rcases h with h | ⟨h, h'⟩ <;> rcases g with g | ⟨g, g'⟩
  · exact .inl (strLt_trans h g)
  · exact .inl (by rw [← g]; exact h)
  · exact .inl (by rw [h]; exact g)
  · exact .inr ⟨h.trans g, by omega⟩
theorem ltP_irrefl {a : Str × Nat} : ¬ ltP a a := fun h => by
  rcases h with h | ⟨_, h⟩
  · exact strLt_irrefl h
  · omega
theorem ltP_total (a b : Str × Nat) : ltP a b ∨ a = b ∨ ltP b a := by
  rcases strLt_total a.1 b.1 with h | h | h
  · exact .inl (.inl h)
  · rcases Nat.lt_trichotomy a.2 b.2 with g | g | g
    · exact .inl (.inr ⟨h, g⟩)
    · exact .inr (.inl (Prod.ext h g))
    · exact .inr (.inr (.inr ⟨h.symm, g⟩))
  · exact .inr (.inr (.inl h))
/-- the least of a list -/
def minP : List (Str × Nat) → Option (Str × Nat)
  | [] => none
  | a :: l => match minP l with
    | none => some a
    | some b => if ltP b a then some b else some a
theorem minP_spec : ∀ {l : List (Str × Nat)} {m : Str × Nat}, minP l = some m → m ∈ l ∧ ∀ a ∈ l, ¬ ltP a m
  | [], _, h => by cases h
  | a :: l, m, h => by
    unfold minP at h
    split at h
    · rename_i e
      cases h
      have : l = [] := by
        cases l with
        | nil => rfl
        | cons b l =>
          unfold minP at e
          split at e
          · cases e
          · split at e <;> cases e
      subst this
      exact ⟨by simp, fun b hb => by rw [List.mem_singleton.mp hb]; exact ltP_irrefl⟩
    · rename_i b e
      obtain ⟨h1, h2⟩ := minP_spec e
      split at h
      · rename_i hlt
        cases h
        refine ⟨List.mem_cons_of_mem _ h1, fun c hc => ?_⟩
        rcases List.mem_cons.mp hc with q | q
        · rw [q]; exact fun z => ltP_irrefl (ltP_trans z hlt)
        · exact h2 c q
      · rename_i hlt
        cases h
        refine ⟨by simp, fun c hc => ?_⟩
        rcases List.mem_cons.mp hc with q | q
        · rw [q]; exact ltP_irrefl
        · intro z
          rcases ltP_total b a with g | g | g
          · exact hlt g
          · exact h2 c q (by rw [g]; exact z)
          · exact h2 c q (ltP_trans z g)
theorem minP_some : ∀ {l : List (Str × Nat)}, l ≠ [] → ∃ m, minP l = some m
  | [], h => absurd rfl h
  | a :: l, _ => by
    unfold minP
    split
    · exact ⟨_, rfl⟩
    · split <;> exact ⟨_, rfl⟩
theorem minP_uniq {l : List (Str × Nat)} {m n : Str × Nat} (h : minP l = some m) (hn : n ∈ l) (hl : ∀ a ∈ l, ¬ ltP a n) : m = n := by
  obtain ⟨h1, h2⟩ := minP_spec h
  rcases ltP_total m n with g | g | g
  · exact absurd g (hl m h1)
  · exact g
  · exact absurd g (h2 n hn)
/-- the least word, letter by letter -/
def leastW (A : Alph) : Nat → List Str → List Str
  | 0, _ => []
  | n + 1, w => match minP (freeL A w) with
    | none => []
    | some m => m.1 :: leastW A n (w.eraseIdx m.2)
section
variable {A : Alph}
theorem freeL_ne {z : Str} {w : List Str} : freeL A (z :: w) ≠ [] := by
  unfold freeL freeF
  have : shareB (plc A z) [] = false := share_iffN.mpr fun _ _ => by simp
  rw [if_neg (by rw [this]; decide)]
  simp
theorem erase_len {α : Type} {w : List α} {j : Nat} {z : α} (h : w[j]? = some z) : (w.eraseIdx j).length + 1 = w.length := by
  have hj := (List.getElem?_eq_some_iff.mp h).1
  rw [List.length_eraseIdx_of_lt hj]
  omega
/-- which letter comes next: the first that stands first at all its processes -/
theorem next_iff (h : AlphOk A) {w : List Str} (hw : ∀ z ∈ w, z ∈ letters A) {m : Str × Nat} (hm : minP (freeL A w) = some m) : (∀ p ∈ plc A m.1, (proj A w p).head? = some m.1) ∧ ∀ c ∈ letters A, (∀ p ∈ plc A c, (proj A w p).head? = some c) → ¬ strLt c m.1 := by
  obtain ⟨h1, h2⟩ := minP_spec hm
  obtain ⟨_, _, hp⟩ := free_head (z := m.1) (j := m.2) h hw h1
  refine ⟨fun p hpm => by rw [hp p, if_pos hpm]; rfl, fun c hc hcp => fun z => ?_⟩
  obtain ⟨j, hj⟩ := head_free h hw hc hcp
  exact h2 _ hj (.inl z)
theorem leastW_len (h : AlphOk A) : ∀ {n : Nat} {w : List Str}, (∀ z ∈ w, z ∈ letters A) → w.length = n → (leastW A n w).length = n ∧ ∀ z ∈ leastW A n w, z ∈ letters A
  | 0, _, _, _ => ⟨rfl, by simp [leastW]⟩
  | n + 1, w, hw, hl => by
    cases w with
    | nil => simp at hl
    | cons z w =>
    obtain ⟨m, hm⟩ := minP_some (freeL_ne (A := A) (z := z) (w := w))
    obtain ⟨h1, _⟩ := minP_spec hm
    obtain ⟨e, hz, _⟩ := free_head (z := m.1) (j := m.2) h hw h1
    have el := erase_len e
    obtain ⟨a, b⟩ := leastW_len h (n := n) (w := (z :: w).eraseIdx m.2) (fun y hy => hw y (List.mem_of_mem_eraseIdx hy)) (by omega)
    unfold leastW
    rw [hm]
    refine ⟨by simp [a], fun y hy => ?_⟩
    rcases List.mem_cons.mp hy with q | q
    · rw [q]; exact hz
    · exact b y q
/-- it is told by the projections -/
theorem leastW_proj (h : AlphOk A) : ∀ {n : Nat} {w v : List Str}, (∀ z ∈ w, z ∈ letters A) → (∀ z ∈ v, z ∈ letters A) → w.length = n → v.length = n → (∀ p, proj A w p = proj A v p) → leastW A n w = leastW A n v
  | 0, _, _, _, _, _, _, _ => rfl
  | n + 1, w, v, hw, hv, lw, lv, hp => by
    cases w with
    | nil => simp at lw
    | cons z w =>
    cases v with
    | nil => simp at lv
    | cons y v =>
    obtain ⟨m, hm⟩ := minP_some (freeL_ne (A := A) (z := z) (w := w))
    obtain ⟨k, hk⟩ := minP_some (freeL_ne (A := A) (z := y) (w := v))
    obtain ⟨e1, z1, q1⟩ := free_head (z := m.1) (j := m.2) h hw (minP_spec hm).1
    obtain ⟨e2, z2, q2⟩ := free_head (z := k.1) (j := k.2) h hv (minP_spec hk).1
    obtain ⟨a1, a2⟩ := next_iff h hw hm
    obtain ⟨b1, b2⟩ := next_iff h hv hk
    have e : m.1 = k.1 := by
      rcases strLt_total m.1 k.1 with g | g | g
      · exact absurd g (b2 m.1 z1 fun p hpm => by rw [← hp]; exact a1 p hpm)
      · exact g
      · exact absurd g (a2 k.1 z2 fun p hpk => by rw [hp]; exact b1 p hpk)
    have l1 := erase_len e1
    have l2 := erase_len e2
    have pe : ∀ p, proj A ((z :: w).eraseIdx m.2) p = proj A ((y :: v).eraseIdx k.2) p := fun p => by
      have a := q1 p
      have b := q2 p
      rw [hp p, b, e] at a
      by_cases hz : p ∈ plc A k.1
      · rw [if_pos hz, if_pos hz] at a
        exact (List.cons.inj a).2.symm
      · rw [if_neg hz, if_neg hz] at a
        exact a.symm
    unfold leastW
    rw [hm, hk]
    show m.1 :: _ = k.1 :: _
    rw [e, leastW_proj h (n := n) (w := (z :: w).eraseIdx m.2) (v := (y :: v).eraseIdx k.2) (fun y hy => hw y (List.mem_of_mem_eraseIdx hy)) (fun y hy => hv y (List.mem_of_mem_eraseIdx hy)) (by omega) (by omega) pe]
end
end A1
end
section
set_option Elab.async false
set_option linter.all false
set_option maxRecDepth 100000
set_option maxHeartbeats 4000000
set_option autoImplicit false
/-! plain: sorted pairs; places_in, is_ready, advanced -/
namespace A1
open PySem PL
section
variable {S : Sto}
def pairD (a : Str × Nat) : D := .tup [.str a.1, .int (a.2 : Int)]
def pairP (a : Str × Nat) : PyData := .tuple [.str a.1, .int (a.2 : Int)]
theorem py_pair (a : Str × Nat) : py S (pairD a) = some (pairP a) := rfl
theorem enc_pair (a : Str × Nat) : enc S (pairD a) = pairP a := by unfold enc; rw [py_pair]; rfl
theorem lt_pair (a b : Str × Nat) : PySem.W.dataLt (pairP a) (pairP b) = decide (ltP a b) := by
  unfold pairP
  rw [PySem.W.dataLt_pair (by simp [PySem.W.alike]) (by simp [PySem.W.alike]), PySem.W.dataLt_str, PySem.W.dataLt_int]
  have irr : ¬ a.1.cps.toList < a.1.cps.toList := List.lt_irrefl _
  by_cases h : a.1 = b.1
  · have e1 : PyData.eqv (.str a.1) (.str b.1) = true := by rw [eqv_str]; exact decide_eq_true h
    rw [if_pos e1]
    by_cases g : (a.2 : Int) = (b.2 : Int)
    · have e2 : PyData.eqv (.int (a.2 : Int)) (.int (b.2 : Int)) = true := by simp [PyData.eqv, g]
      rw [if_pos e2, eq_comm, decide_eq_false_iff_not]
      rintro (z | ⟨_, z⟩)
      · exact strLt_ne z h
      · omega
    · have e2 : ¬ PyData.eqv (.int (a.2 : Int)) (.int (b.2 : Int)) = true := by
        simp only [PyData.eqv, beq_iff_eq]
        exact g
      rw [if_neg e2]
      refine decide_eq_decide.mpr ⟨fun z => .inr ⟨h, by omega⟩, fun z => ?_⟩
      rcases z with z | ⟨_, z⟩
      · exact absurd h (strLt_ne z)
      · omega
  · have e1 : ¬ PyData.eqv (.str a.1) (.str b.1) = true := by rw [eqv_str, decide_eq_true_eq]; exact h
    rw [if_neg e1]
    refine decide_eq_decide.mpr ⟨fun z => .inl z, fun z => ?_⟩
    rcases z with z | ⟨z, _⟩
    · exact z
    · exact absurd z h
def leP (a b : Str × Nat) : Bool := !decide (ltP b a)
theorem leP_iff {a b : Str × Nat} : leP a b = true ↔ ¬ ltP b a := by simp [leP]
theorem sortP_head (xs : List (Str × Nat)) : (xs.mergeSort leP).head? = minP xs := by
  have sorted := List.pairwise_mergeSort (le := leP) (fun a b c h g => by
      rw [leP_iff] at *
      intro z
      rcases ltP_total a b with q | q | q
      · exact g (ltP_trans z q)
      · subst q; exact g z
      · exact h q) (fun a b => by
      rw [Bool.or_eq_true, leP_iff, leP_iff]
      rcases ltP_total a b with q | q | q
      · exact .inl fun z => ltP_irrefl (ltP_trans z q)
      · subst q; exact .inl ltP_irrefl
      · exact .inr fun z => ltP_irrefl (ltP_trans z q)) xs
  have perm := List.mergeSort_perm xs leP
  cases xs with
  | nil => simp [minP]
  | cons x xs =>
  obtain ⟨m, hm⟩ := minP_some (l := x :: xs) (by simp)
  rw [hm]
  cases e : (x :: xs).mergeSort leP with
  | nil =>
    rw [e] at perm
    have := perm.length_eq
    simp at this
  | cons y ys =>
    rw [e] at perm sorted
    have hy : y ∈ x :: xs := perm.mem_iff.mp (by simp)
    rw [List.head?_cons, minP_uniq hm hy fun a ha => ?_]
    have ha' := perm.mem_iff.mpr ha
    rcases List.mem_cons.mp ha' with q | q
    · rw [q]; exact ltP_irrefl
    · exact leP_iff.mp ((List.pairwise_cons.mp sorted).1 a q)
theorem sorted_pairs {xs : List (Str × Nat)} (h0 : xs ≠ []) (hl : xs.length ≤ 10000) {v : D} (hs : seqOf S v = some (xs.map pairD)) (hi : isL S v = true) : sortedN [v] S = .ok (.lst ((xs.mergeSort leP).map pairD)) S := by
  have e1 : optAll (py S) (xs.map pairD) = some (xs.map pairP) := optAll_map py_pair xs
  have e2 : sortD S (xs.map pairD) = (xs.mergeSort leP).map pairD := by
    unfold sortD
    rw [List.map_mergeSort fun a _ b _ => ?_]
    show leP a b = (!PySem.W.dataLt (enc S (pairD b)) (enc S (pairD a)))
    rw [enc_pair, enc_pair, lt_pair]
    rfl
  have ok : sortOk (xs.map pairP) = true := by
    unfold sortOk
    have a1 : ((xs.map pairP).all fun p => (xs.map pairP).all fun q => PySem.W.alike p q) = true := by
      refine List.all_eq_true.mpr fun p hp => List.all_eq_true.mpr fun q hq => ?_
      obtain ⟨r, _, rfl⟩ := List.mem_map.mp hp
      obtain ⟨t, _, rfl⟩ := List.mem_map.mp hq
      simp [pairP, PySem.W.alike, PySem.W.alikeAll]
    have : (xs.map pairP).length ≤ sizeLine := by rw [List.length_map]; exact size_le hl
    refine Bool.and_eq_true_iff.mpr ⟨Bool.and_eq_true_iff.mpr ⟨a1, Bool.or_eq_true_iff.mpr (.inl (List.all_eq_true.mpr fun p hp => ?_))⟩, decide_eq_true this⟩
    obtain ⟨r, _, rfl⟩ := List.mem_map.mp hp
    rfl
  unfold sortedN
  simp only [hs, hi, e1, ok, if_true, e2]

/-! dict comprehensions -/
theorem put_row {done : List (Str × List Int)} {r : Str × List Int} (h : ((done ++ [r]).map (·.1)).Pairwise strLt) : putL (placesD done) (.inr r.1) (.str r.1) (placeD r.2) = placesD (done ++ [r]) := by
  have no : ((placesD done).any fun kv => decide (keyOf kv.1 = some (.inr r.1))) = false := by
    refine List.any_eq_false.mpr fun kv hkv => ?_
    obtain ⟨t, ht, rfl⟩ := List.mem_map.mp hkv
    rw [List.map_append, List.pairwise_append] at h
    have lt := h.2.2 t.1 (List.mem_map.mpr ⟨t, ht, rfl⟩) r.1 (by simp)
    simp only [keyOf, Option.some.injEq, Sum.inr.injEq, decide_eq_true_eq]
    exact strLt_ne lt
  unfold putL
  rw [no, if_neg Bool.false_ne_true]
  simp [placesD]
theorem dc_rows {T : Tg} {fk fv : Ev} {ρ : Fr} {rows : List (Str × List Int)} (hp : (rows.map (·.1)).Pairwise strLt) (hl : rows.length ≤ 1000) (h : ∀ r ∈ rows, ∃ ρ1, setT T (rowD r) ρ = some ρ1 ∧ fk ρ1 S = .ok (.str r.1) S ∧ fv ρ1 S = .ok (placeD r.2) S) :
    ∀ (n i : Nat), rows.length - i < n → i ≤ rows.length → runDC T bYes fk fv (.one (.fix (rows.map rowD))) n i ρ (placesD (rows.take i)) S = .ok (placesD rows) S := by
  intro n
  induction n with
  | zero => intro i h0; omega
  | succ n ih =>
    intro i h0 h1
    unfold runDC
    rw [item_at (its := rows.map rowD) rfl, List.getElem?_map]
    by_cases hlt : i < rows.length
    · have e : rows[i]? = some rows[i] := List.getElem?_eq_getElem hlt
      obtain ⟨ρ1, e1, e2, e3⟩ := h rows[i] (List.getElem_mem hlt)
      rw [e]
      simp only [Option.map_some, e1, bYes, e2, e3, keyOf]
      have tk : rows.take (i + 1) = rows.take i ++ [rows[i]] := by rw [List.take_succ, e]; rfl
      have lp : (placesD (rows.take i)).length < sizeLine := by
        unfold placesD
        rw [List.length_map, List.length_take]
        exact Nat.lt_of_lt_of_le (show min i rows.length < 10000 by omega) (by decide)
      rw [if_pos lp, put_row (by rw [← tk]; exact hp.sublist ((List.take_sublist _ _).map _)), ← tk]
      exact ih (i + 1) (by omega) hlt
    · have e : rows[i]? = none := List.getElem?_eq_none (by omega)
      rw [e]
      rw [List.take_of_length_le (by omega)]
      rfl
theorem low_placesD (rows : List (Str × List Int)) (n : Nat) : low n (.dct false (placesD rows)) = true := by
  show lowK n (placesD rows) = true
  induction rows with
  | nil => rfl
  | cons r rows ih =>
    show (low n (placeD r.2) && lowK n (placesD rows)) = true
    rw [low_place, ih]; rfl
theorem places_in_ok (w : WF S) {A : Alph} (h : AlphOk A) : M.f_places_in [A.d] S = .ok (.dct false (placesD A.rows)) S := by
  refine fn_pure w rfl ?_ (low_placesD _ _)
  show M.m_places_in [some A.d, none, none] S = _
  have r10 := h.r10
  have dc : nDC (.tp [.nm 1, .nm 2]) (iOf (eIx (eVar 0) (eC (.int 1)))) bYes (eVar 1) (eVar 2) [1, 2] [some A.d, none, none] S = .ok (.dct false (placesD A.rows)) S := by
    unfold nDC
    rw [it_rows rfl]
    show (runDC (.tp [.nm 1, .nm 2]) bYes (eVar 1) (eVar 2) (.one (.fix (A.rows.map rowD))) (srcFuel (.one (.fix (A.rows.map rowD)))) 0 [some A.d, none, none] (placesD (A.rows.take 0)) S).bind _ = _
    rw [dc_rows h.asc (by omega) (fun r _ => ⟨_, rfl, rfl, rfl⟩) _ 0 (by show _ < (A.rows.map rowD).length + 1; rw [List.length_map]; omega) (Nat.zero_le _)]
    rfl
  exact s_ret (x_fix dc)

/-! numbers of events done -/
def doneD (A : Alph) (f : Nat → Nat) : D := .tup ((List.range A.many).map fun j => .int (f j : Int))
def linesD (A : Alph) (x : List Str) : D := .lst ((procs A).map fun p => wordD (proj A x p))
theorem done_at {A : Alph} {f : Nat → Nat} {j : Nat} (hj : j < A.many) : ixD (doneD A f) (.int (j : Int)) S = .ok (.int (f j : Int)) S := ix_nat (xs := (List.range A.many).map fun j => .int (f j : Int)) rfl (by rw [List.getElem?_map, List.getElem?_range hj]; rfl)
theorem lines_at {A : Alph} {x : List Str} {j : Nat} (hj : j < A.many) : ixD (linesD A x) (.int (j : Int)) S = .ok (wordD (proj A x (j : Int))) S := ix_nat (xs := (procs A).map fun p => wordD (proj A x p)) rfl (by
  unfold procs
  rw [List.getElem?_map, List.getElem?_map, List.getElem?_range hj]; rfl)
theorem lt_int_R {i j : Int} : cmpD .Lt (.int i) (.int j) S = .ok (.bl (decide (i < j))) S := rfl
theorem x_andK {ρ : Fr} {f g : Ev} {b c : Bool} (h1 : f ρ S = .ok (.bl b) S) (h2 : b = true → g ρ S = .ok (.bl c) S) : eAnd f g ρ S = .ok (.bl (b && c)) S := by
  refine x_and h1 (fun z => ?_) fun z => ?_
  · rw [h2 z, z]; rfl
  · rw [z]; exact ⟨rfl, rfl⟩
/-- is the letter ready at process j -/
def rdy (A : Alph) (x : List Str) (f : Nat → Nat) (z : Str) (p : Int) : Bool := decide (((proj A x p).drop (f p.toNat)).head? = some z)
/-- a while loop by the turns that are left -/
theorem while_by {c : EvB} {b : St'} (Inv : Nat → Fr → Sto → Prop) (Out : Fl → Prop) (h0 : ∀ ρ X, Inv 0 ρ X → ∃ X1, c ρ X = .ok false X1 ∧ Out (.nx ρ X1))
    (hs : ∀ m ρ X, Inv (m + 1) ρ X → ∃ X1, c ρ X = .ok true X1 ∧ ((∃ ρ2 X2, b ρ X1 = .nx ρ2 X2 ∧ Inv m ρ2 X2) ∨ (∃ ρ2 X2, b ρ X1 = .ct ρ2 X2 ∧ Inv m ρ2 X2))) : ∀ (n m : Nat) (ρ : Fr) (X : Sto), m < n → Inv m ρ X → Out (runWhile c b n ρ X) := by
  intro n
  induction n with
  | zero => intro m ρ X h; omega
  | succ n ih =>
    intro m ρ X h hI
    unfold runWhile
    cases m with
    | zero =>
      obtain ⟨X1, e, o⟩ := h0 ρ X hI
      rw [e]
      exact o
    | succ m =>
      obtain ⟨X1, e, o⟩ := hs m ρ X hI
      rw [e]
      show Out (if true = true then (match b ρ X1 with
        | .nx ρ2 S2 => runWhile c b n ρ2 S2
        | .ct ρ2 S2 => runWhile c b n ρ2 S2
        | .bk ρ2 S2 => .nx ρ2 S2
        | r => r) else .nx ρ X1)
      rw [if_pos rfl]
      rcases o with ⟨ρ2, X2, e2, i2⟩ | ⟨ρ2, X2, e2, i2⟩
      · rw [e2]; exact ih m ρ2 X2 (by omega) i2
      · rw [e2]; exact ih m ρ2 X2 (by omega) i2
end
end A1
end
section
set_option Elab.async false
set_option linter.all false
set_option maxRecDepth 100000
set_option maxHeartbeats 4000000
set_option autoImplicit false
/-! plain: least_in finds the least word -/
namespace A1
open PySem PL
section
variable {S : Sto}
theorem len_refL {l : Nat} {xs : List D} (h : S[l]? = some (.lst xs)) : lenD [.ref l] S = .ok (.int xs.length) S := by
  have := seq_ref h
  unfold lenD lenOf
  simp only [this]
theorem lt_true {i j : Int} (h : i < j) : cmpR .Lt (.int i) (.int j) S = .ok true S := by rw [lt_okR, decide_eq_true h]
theorem lt_false {i j : Int} (h : ¬ i < j) : cmpR .Lt (.int i) (.int j) S = .ok false S := by rw [lt_okR, decide_eq_false h]
theorem zeros {A : Alph} (h1 : 1 ≤ A.many) (h5 : A.many ≤ 5) : binD .Mult (.tup [.int 0]) (.int (A.many : Int)) S = .ok (doneD A fun _ => 0) S := by
  have rep : ∀ n : Nat, (List.replicate n [D.int 0]).flatten = (List.range n).map fun j => D.int (((fun _ : Nat => (0 : Nat)) j : Nat) : Int) := fun n => by
    induction n with
    | zero => rfl
    | succ n ih => rw [List.replicate_succ', List.flatten_append, ih, List.range_succ, List.map_append]; rfl
  show (if (A.many : Int) = 1 then Res.ok (D.tup [.int 0]) S else if [D.int 0] ≠ [] ∧ 2 ≤ (A.many : Int) ∧ (A.many : Int) ≤ 1000 ∧ [D.int 0].length ≤ 1000 then Res.ok (D.tup (List.replicate (A.many : Int).toNat [D.int 0]).flatten) S else .bad) = _
  unfold doneD
  by_cases c : A.many = 1
  · rw [if_pos (by omega), c]; rfl
  · rw [if_neg (by omega), if_pos ⟨by simp, by omega, by omega, by decide⟩, Int.toNat_natCast, rep]
abbrev leF (A : Alph) (x : List Str) (l : Nat) (f : Nat → Nat) (o6 o7 : Option D) : Fr := [some A.d, some (wordD x), some (.dct false (placesD A.rows)), some (linesD A x), some (doneD A f), some (.ref l), o6, o7]
theorem append_at {S T : Sto} {l : Nat} {xs : List D} {d : D} (hl : l = S.length) (h : xs.length < 10000) : appendD (.ref l) [d] (S ++ .lst xs :: T) = .ok .non (S ++ .lst (xs ++ [d]) :: T) := by
  subst hl; exact append_app h
theorem pairs_items (rows : List (Str × List Int)) : pairsD (placesD rows) = rows.map rowD := by
  unfold pairsD placesD
  rw [List.map_map]; rfl
/-- the state between two letters -/
structure Mid (A : Alph) (x : List Str) (f : Nat → Nat) (left : List Str) : Prop where
  ok : ∀ z ∈ left, z ∈ letters A
  pr : ∀ j : Nat, j < A.many → proj A left (j : Int) = (proj A x (j : Int)).drop (f j)
theorem Mid.rdy {A : Alph} {x : List Str} {f : Nat → Nat} {left : List Str} (m : Mid A x f left) (h : AlphOk A) {z : Str} (hz : z ∈ letters A) : (plc A z).all (rdy A x f z) = true ↔ ∀ p ∈ plc A z, (proj A left p).head? = some z := by
  rw [List.all_eq_true]
  refine forall_congr' fun p => forall_congr' fun hp => ?_
  obtain ⟨k1, k2⟩ := plc_in h hz p hp
  obtain ⟨j, rfl⟩ := Int.eq_ofNat_of_zero_le k1
  rw [m.pr j (by omega)]
  unfold A1.rdy
  rw [decide_eq_true_eq, Int.toNat_natCast]
theorem Mid.next {A : Alph} {x : List Str} {f : Nat → Nat} {left : List Str} (m : Mid A x f left) (h : AlphOk A) {k : Str × Nat} (hk : minP (freeL A left) = some k) : Mid A x (fun j => f j + if (j : Int) ∈ plc A k.1 then 1 else 0) (left.eraseIdx k.2) := by
  obtain ⟨_, _, hp⟩ := free_head (z := k.1) (j := k.2) h m.ok (minP_spec hk).1
  refine ⟨fun y hy => m.ok y (List.mem_of_mem_eraseIdx hy), fun j hj => ?_⟩
  have e := m.pr j hj
  rw [hp] at e
  by_cases c : (j : Int) ∈ plc A k.1
  · rw [if_pos c] at e
    show _ = List.drop (f j + if (j : Int) ∈ plc A k.1 then 1 else 0) _
    rw [if_pos c, ← List.tail_drop, ← e]; rfl
  · rw [if_neg c] at e
    show _ = List.drop (f j + if (j : Int) ∈ plc A k.1 then 1 else 0) _
    rw [if_neg c, Nat.add_zero]; exact e
end
end A1
end
section
set_option Elab.async false
set_option linter.all false
set_option maxRecDepth 100000
set_option maxHeartbeats 4000000
set_option autoImplicit false
/-! plain: the law finds the least word, too -/
namespace A1
open PySem PL
section
variable {S : Sto}
theorem in_intsR {i : Int} {l : Nat} {q : List Int} (h : S[l]? = some (.lst (q.map D.int))) : cmpR .In (.int i) (.ref l) S = .ok (decide (i ∈ q)) S := by
  have e : inS S (.int i) (.ref l) = some (decide (i ∈ q)) := by
    unfold inS
    simp only [seq_ref h]
    rw [show py S (.int i) = some (.int i) from rfl, show pys S (q.map D.int) = some (q.map PyData.int) from py_ints 59 q]
    simp only [any_int]
  simp [cmpR, cmpS, e]
theorem meet_okR (w : WF S) {p q : List Int} {l : Nat} (hl : S[l]? = some (.lst (q.map D.int))) (hp : p.length ≤ 10000) : M.f_law_meet [placeD p, .ref l] S = .ok (.bl (shareB p q)) S := by
  refine fn_pure w rfl ?_ rfl
  show M.m_law_meet [some (placeD p), some (.ref l), none] S = _
  have lc : lLC (.nm 2) (iOf (eVar 0)) (bCmp .In (eVar 2) (eVar 1)) (eVar 2) [2] [some (placeD p), some (.ref l), none] S = .ok ((p.filter fun i => decide (i ∈ q)).map D.int) S :=
    lLC_map (s := .one (.fix (p.map D.int))) (e := D.int) (fun i => decide (i ∈ q)) D.int rfl rfl hp fun i _ => ⟨[some (placeD p), some (.ref l), some (.int i)], rfl, y_cmpK (x_var rfl) (x_var rfl) (in_intsR hl), fun _ => rfl⟩
  have ne : cmpD .NotEq (.lst ((p.filter fun i => decide (i ∈ q)).map D.int)) (.lst []) S = .ok (.bl (shareB p q)) S := by
    unfold cmpD; rw [ne_nil]; rfl
  exact s_ret (x_cmpK (x_fix (x_nLst lc)) (x_fix (x_nLst (x_lLst x_nil (Nat.zero_le _)))) ne)
theorem ne_refnil {l : Nat} {w : List Str} (h : S[l]? = some (.lst (w.map D.str))) : cmpR .NotEq (.ref l) (.lst []) S = .ok (!w.isEmpty) S := by
  have p1 : py S (.ref l) = some (.list (w.map PyData.str)) := by
    show toPyN S (59 + 1) (.ref l) = _
    unfold toPyN
    simp only [h]
    rw [py_strs]; rfl
  have e : eqS S (.ref l) (.lst []) = some w.isEmpty := by
    unfold eqS
    rw [p1, show py S (.lst []) = some (.list []) from rfl]
    cases w with
    | nil => simp [PyData.eqv, PyData.eqvAll]
    | cons a w => simp [PyData.eqv, PyData.eqvAll]
  simp [cmpR, cmpS, e]
theorem gp0 {S T : Sto} {a : Ob} : (S ++ a :: T)[S.length]? = some a := by rw [List.getElem?_append_right (Nat.le_refl _), Nat.sub_self]; rfl
theorem gp1 {S T : Sto} {a b : Ob} : (S ++ a :: b :: T)[S.length + 1]? = some b := by rw [List.getElem?_append_right (by omega), show S.length + 1 - S.length = 1 by omega]; rfl
theorem sp0 {S T : Sto} {a b : Ob} : (S ++ a :: T).set S.length b = S ++ b :: T := by rw [List.set_append_right _ _ (Nat.le_refl _), Nat.sub_self]; rfl
theorem sp1 {S T : Sto} {a b c : Ob} : (S ++ a :: b :: T).set (S.length + 1) c = S ++ a :: c :: T := by rw [List.set_append_right _ _ (by omega), show S.length + 1 - S.length = 1 by omega]; rfl
theorem app_at {l : Nat} {xs : List D} {d : D} (e : S[l]? = some (.lst xs)) (h : xs.length < 10000) : appendD (.ref l) [d] S = .ok .non (S.set l (.lst (xs ++ [d]))) := by
  unfold appendD
  simp only [e]
  rw [if_pos (fits_le (by omega))]
theorem ext_at {l : Nat} {xs ys : List D} (e : S[l]? = some (.lst xs)) (h : xs.length + ys.length < 10000) : extendD (.ref l) [.tup ys] S = .ok .non (S.set l (.lst (xs ++ ys))) := by
  unfold extendD extOf
  simp only [e]
  rw [if_pos (fits_le (by omega))]
theorem idx_at {j n : Nat} (hj : j < n) : seqIndex? (j : Int) n = some j := by
  have e1 : (if (j : Int) < 0 then (j : Int) + (n : Int) else (j : Int)) = (j : Int) := if_neg (by omega)
  have e2 : (decide ((0 : Int) ≤ (j : Int)) && decide ((j : Int) < (n : Int))) = true := by
    rw [decide_eq_true (by omega), decide_eq_true (by omega)]; rfl
  unfold seqIndex?
  simp only [e1, e2, if_true, Int.toNat_natCast]
theorem idx_in {j n : Nat} (hj : j < n) (h : n < 10000) : (if -(2 ^ 63) ≤ (j : Int) ∧ (j : Int) < 2 ^ 63 then seqIndex? (j : Int) n else none) = some j := by
  rw [if_pos ⟨by omega, by omega⟩, idx_at hj]
theorem pop_cases {l : Nat} {i : Int} {xs : List D} {k : Nat} {d : D} (e : S[l]? = some (.lst xs)) (ix : (if -(2 ^ 63) ≤ i ∧ i < 2 ^ 63 then seqIndex? i xs.length else none) = some k) (hd : xs[k]? = some d) : lpopD (.ref l) [.int i] S = .ok d (S.set l (.lst (xs.eraseIdx k))) := by
  unfold lpopD
  dsimp only
  rw [e]
  dsimp only
  rw [ix]
  dsimp only
  rw [hd]
theorem pop_at {l j : Nat} {xs : List D} {d : D} (e : S[l]? = some (.lst xs)) (hd : xs[j]? = some d) (h : xs.length < 10000) : lpopD (.ref l) [.int (j : Int)] S = .ok d (S.set l (.lst (xs.eraseIdx j))) := pop_cases e (idx_in (List.getElem?_eq_some_iff.mp hd).1 h) hd
abbrev smF (A : Alph) (x : List Str) (l : Nat) (o5 o6 o7 o8 : Option D) : Fr := [some A.d, some (wordD x), some (.dct false (placesD A.rows)), some (.ref l), some (.ref (l + 1)), o5, o6, o7, o8]
abbrev smB : St' := sSeq (sIf (bNot (bVal (eCallD M.f_law_meet [] (aCons (eIx (eVar 2) (eVar 8)) (aCons (eVar 6) aNil))))) (sExpr (eMeth [("list", appendD)] (eVar 5) (aCons (eTup (aCons (eVar 8) (aCons (eVar 7) aNil))) aNil))) sNext) (sExpr (eMeth [("list", extendD)] (eVar 6) (aCons (eIx (eVar 2) (eVar 8)) aNil)))
theorem place_plc {A : Alph} (h : AlphOk A) {x : Str} (hx : x ∈ letters A) : ixD (.dct false (placesD A.rows)) (.str x) S = .ok (placeD (plc A x)) S := by
  obtain ⟨r, hr, rfl, e⟩ := place_at (S := S) h hx
  rw [plc_row h hr]; exact e
theorem flat_len {A : Alph} (h : AlphOk A) : ∀ {w : List Str}, (∀ z ∈ w, z ∈ letters A) → (w.flatMap (plc A)).length ≤ 5 * w.length
  | [], _ => by simp
  | z :: w, hw => by
    rw [List.flatMap_cons, List.length_append, List.length_cons]
    have := plc_len h (hw z (by simp))
    have := flat_len h (w := w) fun y hy => hw y (List.mem_cons_of_mem _ hy)
    omega
theorem freeF_len {A : Alph} : ∀ {w : List Str} {tk : List Int} {i : Nat}, (freeF A tk i w).length ≤ w.length
  | [], _, _ => by simp [freeF]
  | z :: w, tk, i => by
    rw [freeF, List.length_append, List.length_cons]
    have := freeF_len (A := A) (w := w) (tk := tk ++ plc A z) (i := i + 1)
    split <;> simp <;> omega
abbrev smX (X : Sto) (A : Alph) (w : List Str) : Sto := X ++ [.lst ((freeL A w).map pairD), .lst ((w.flatMap (plc A)).map D.int)]
/-- one letter more -/
theorem sm_turn {A : Alph} (h : AlphOk A) {x w : List Str} {z : Str} {X : Sto} {l : Nat} (hX : WF X) (hz : z ∈ letters A) (hw : ∀ y ∈ w, y ∈ letters A) (hl : w.length < 300) :
    smB (smF A x l (some (.ref X.length)) (some (.ref (X.length + 1))) (some (.int (w.length : Int))) (some (.str z))) (smX X A w) = .nx (smF A x l (some (.ref X.length)) (some (.ref (X.length + 1))) (some (.int (w.length : Int))) (some (.str z))) (smX X A (w ++ [z])) := by
  have pz := plc_len h hz
  have fl := flat_len h hw
  have fz : (freeL A w).length ≤ w.length := freeF_len
  have wf : WF (smX X A w) := WF.app hX fun ob ho => by
    simp only [List.mem_cons, List.not_mem_nil, or_false] at ho
    rcases ho with rfl | rfl
    · exact lowL_map fun _ _ => rfl
    · exact lowL_map fun _ _ => rfl
  have g1 : (smX X A w)[X.length + 1]? = some (.lst ((w.flatMap (plc A)).map D.int)) := gp1
  have m := meet_okR wf (p := plc A z) g1 (by omega)
  have fr : freeL A (w ++ [z]) = freeL A w ++ if shareB (plc A z) (w.flatMap (plc A)) = true then [] else [(z, w.length)] := by
    unfold freeL
    rw [freeF_app, List.nil_append, Nat.zero_add, freeF, freeF, List.append_nil]
  have tk : (w ++ [z]).flatMap (plc A) = w.flatMap (plc A) ++ plc A z := by simp
  have first : ∃ Y, sIf (bNot (bVal (eCallD M.f_law_meet [] (aCons (eIx (eVar 2) (eVar 8)) (aCons (eVar 6) aNil))))) (sExpr (eMeth [("list", appendD)] (eVar 5) (aCons (eTup (aCons (eVar 8) (aCons (eVar 7) aNil))) aNil))) sNext (smF A x l (some (.ref X.length)) (some (.ref (X.length + 1))) (some (.int (w.length : Int))) (some (.str z))) (smX X A w) = .nx (smF A x l (some (.ref X.length)) (some (.ref (X.length + 1))) (some (.int (w.length : Int))) (some (.str z))) Y ∧ Y = X ++ [.lst ((freeL A (w ++ [z])).map pairD), .lst ((w.flatMap (plc A)).map D.int)] := by
    have test := y_not (y_val (x_call (fn := M.f_law_meet) (ρ := smF A x l (some (.ref X.length)) (some (.ref (X.length + 1))) (some (.int (w.length : Int))) (some (.str z))) (x_cons (x_ixK (f := eVar 2) (g := eVar 8) (x_var rfl) (x_var rfl) (place_plc h hz)) (x_cons (x_var (i := 6) rfl) x_nil)) m))
    rw [fr]
    cases c : shareB (plc A z) (w.flatMap (plc A)) with
    | true =>
      rw [c] at test
      exact ⟨_, s_ifF test rfl, by rw [if_pos rfl, List.append_nil]⟩
    | false =>
      rw [c] at test
      refine ⟨_, s_ifT test (s_expr (d := .non) (x_meth (x_var rfl) (ty_refL (gp0 (a := .lst _))) rfl (x_cons (x_tup (x_cons (x_var rfl) (x_cons (x_var rfl) x_nil)) (Nat.le_trans (show 2 ≤ 10000 by decide) (by decide))) x_nil) (app_at gp0 (by rw [List.length_map]; omega)))), ?_⟩
      rw [if_neg Bool.false_ne_true, sp0, List.map_append]; rfl
  obtain ⟨Y, e1, rfl⟩ := first
  refine s_seqN e1 (s_expr (d := .non) (x_meth (x_var rfl) (ty_refL (gp1 (b := .lst _))) rfl (x_cons (x_ixK (x_var rfl) (x_var rfl) (place_plc h hz)) x_nil) ?_))
  refine (ext_at (ys := (plc A z).map D.int) gp1 (by rw [List.length_map, List.length_map]; omega)).trans ?_
  rw [sp1]
  show _ = Res.ok D.non (X ++ [.lst ((freeL A (w ++ [z])).map pairD), .lst (((w ++ [z]).flatMap (plc A)).map D.int)])
  rw [tk, List.map_append]
end
end A1
end
section
set_option Elab.async false
set_option linter.all false
set_option maxRecDepth 100000
set_option maxHeartbeats 4000000
set_option autoImplicit false
/-! plain: the law's smallest word is the least word -/
namespace A1
open PySem PL
section
variable {S : Sto}
theorem wf_app2 {X T : Sto} (hX : WF X) (h : ∀ ob ∈ T, lowOb 0 ob = true) : WF (X ++ T) := WF.app hX h
theorem low_strs (w : List Str) : lowOb 0 (.lst (w.map D.str)) = true := lowL_map fun _ _ => rfl
theorem s_par3 {i j l : Nat} {F : EvL} {ρ : Fr} {S1 : Sto} {d e g : D} (h : F ρ S = .ok [d, e, g] S1) : sPar3 i j l F ρ S = .nx (((ρ.set i (some d)).set j (some e)).set l (some g)) S1 := by
  unfold sPar3; rw [h]; rfl
theorem map_erase {α β : Type} {f : α → β} : ∀ {l : List α} {k : Nat}, (l.map f).eraseIdx k = (l.eraseIdx k).map f
  | [], _ => rfl
  | _ :: _, 0 => rfl
  | a :: l, k + 1 => by rw [List.map_cons, List.eraseIdx_cons_succ, List.eraseIdx_cons_succ, List.map_cons, map_erase]
theorem thaw2 {ρ : Fr} {X : Sto} : aCons (eThaw (nLst (lLst aNil))) (aCons (eThaw (nLst (lLst aNil))) aNil) ρ X = .ok [.ref X.length, .ref (X.length + 1)] (X ++ [.lst [], .lst []]) := by
  have a2 := x_thaw (ρ := ρ) (S := X ++ [.lst []]) (x_nLst (x_lLst x_nil (Nat.zero_le _)))
  have a3 := x_cons (x_thaw (ρ := ρ) (S := X) (x_nLst (x_lLst x_nil (Nat.zero_le _)))) (x_cons a2 x_nil)
  rw [List.length_append, List.append_assoc] at a3
  exact a3
/-- a letter's turn of the inner loop: all letters -/
theorem sm_loop {A : Alph} (h : AlphOk A) {x left found : List Str} {T : Sto} {n : Nat} (hX : WF (S ++ .lst (left.map .str) :: .lst (found.map .str) :: T)) (hw : ∀ y ∈ left, y ∈ letters A) (hl : left.length < 300) (hn : n = (S ++ .lst (left.map .str) :: .lst (found.map .str) :: T).length) (o7 o8 : Option D) :
    ∃ p7 p8, sFor (.tp [.nm 7, .nm 8]) (iEnum1 (eVar 3)) smB (smF A x S.length (some (.ref n)) (some (.ref (n + 1))) o7 o8) (smX (S ++ .lst (left.map .str) :: .lst (found.map .str) :: T) A []) = .nx (smF A x S.length (some (.ref n)) (some (.ref (n + 1))) p7 p8) (smX (S ++ .lst (left.map .str) :: .lst (found.map .str) :: T) A left) := by
  subst hn
  generalize hXe : S ++ Ob.lst (left.map D.str) :: .lst (found.map .str) :: T = X at hX
  have lx : ∀ w : List Str, (smX X A w)[S.length]? = some (.lst (left.map D.str)) := fun w => by
    have : S.length < X.length := by rw [← hXe]; simp
    rw [List.getElem?_append_left this, ← hXe]
    exact gp0
  have len : (((left.map D.str).zipIdx).map fun p => D.tup [.int (p.2 : Int), p.1]).length = left.length := by simp
  refine sFor_at (its := ((left.map D.str).zipIdx).map fun p => D.tup [.int (p.2 : Int), p.1]) (s := .enum (.ref S.length)) (S0 := smX X A [])
    (fun i ρ Y => ∃ p7 p8, ρ = smF A x S.length (some (.ref X.length)) (some (.ref (X.length + 1))) p7 p8 ∧ Y = smX X A (left.take i))
    (fun r => ∃ p7 p8, r = .nx (smF A x S.length (some (.ref X.length)) (some (.ref (X.length + 1))) p7 p8) (smX X A left)) ?_ ?_ ?_ ⟨o7, o8, rfl, by simp⟩ ?_ ?_
  · show enum1 (.ref S.length) (smX X A []) = _
    unfold enum1 src1Of
    simp only [lx]
  · rw [len]; show _ < 1000000; omega
  · rintro i ρ Y _ ⟨p7, p8, _, rfl⟩
    show (at1 (.ref S.length) i (smX X A (left.take i))).map _ = _
    unfold at1
    simp only [lx]
    simp only [List.getElem?_map, List.getElem?_zipIdx]
    cases left[i]? <;> simp
  · rintro i d ρ Y hd ⟨p7, p8, rfl, rfl⟩
    rw [List.getElem?_map, List.getElem?_zipIdx, List.getElem?_map] at hd
    cases hq : left[i]? with
    | none => rw [hq] at hd; cases hd
    | some z =>
      rw [hq] at hd
      simp at hd
      subst hd
      have hi := (List.getElem?_eq_some_iff.mp hq).1
      have lt : (left.take i).length = i := by rw [List.length_take]; omega
      have t := sm_turn (l := S.length) (x := x) (w := left.take i) h hX (hw z (List.mem_of_getElem? hq)) (fun y hy => hw y (List.mem_of_mem_take hy)) (by omega)
      rw [lt] at t
      refine ⟨_, rfl, ?_⟩
      show match smB (smF A x S.length (some (.ref X.length)) (some (.ref (X.length + 1))) (some (.int (i : Int))) (some (.str z))) (smX X A (left.take i)) with
        | .nx ρ2 S2 => _
        | .ct ρ2 S2 => _
        | .bk ρ2 S2 => _
        | r => _
      rw [t]
      refine ⟨_, _, rfl, ?_⟩
      rw [List.take_succ, hq]
      rfl
  · rintro ρ Y ⟨p7, p8, rfl, rfl⟩
    rw [len, List.take_length]
    exact ⟨_, _, rfl⟩
abbrev smW : St' := sSeq (sPar 5 6 (aCons (eThaw (nLst (lLst aNil))) (aCons (eThaw (nLst (lLst aNil))) aNil))) (sSeq (sFor (.tp [.nm 7, .nm 8]) (iEnum1 (eVar 3)) smB) (sExpr (eMeth [("list", appendD)] (eVar 4) (aCons (eMeth [("list", lpopD)] (eVar 3) (aCons (eIx (eIx (eFixN (nBf sortedN (aCons (eVar 5) aNil))) (eC (.int 0))) (eC (.int 1))) aNil)) aNil))))
/-- a turn of the while loop -/
theorem sm_while {A : Alph} (h : AlphOk A) {x left found : List Str} {T : Sto} {k : Str × Nat} (hk : minP (freeL A left) = some k) (hX : WF (S ++ .lst (left.map .str) :: .lst (found.map .str) :: T)) (hw : ∀ y ∈ left, y ∈ letters A) (hl : left.length < 300) (hf : found.length < 1000) (o5 o6 o7 o8 : Option D) :
    ∃ p5 p6 p7 p8 T', smW (smF A x S.length o5 o6 o7 o8) (S ++ .lst (left.map .str) :: .lst (found.map .str) :: T) = .nx (smF A x S.length p5 p6 p7 p8) (S ++ .lst ((left.eraseIdx k.2).map .str) :: .lst ((found ++ [k.1]).map .str) :: T') ∧ ((∀ ob ∈ T, lowOb 0 ob = true) → ∀ ob ∈ T', lowOb 0 ob = true) := by
  obtain ⟨ej, kz, _⟩ := free_head (z := k.1) (j := k.2) h hw (minP_spec hk).1
  have fl : (freeL A left).length ≤ left.length := freeF_len
  obtain ⟨p7, p8, e⟩ := sm_loop (x := x) (n := (S ++ .lst (left.map .str) :: .lst (found.map .str) :: T).length) h hX hw hl rfl o7 o8
  have hne : freeL A left ≠ [] := fun z => by rw [z] at hk; cases hk
  let fr : Ob := .lst ((freeL A left).map pairD)
  let tk : Ob := .lst ((left.flatMap (plc A)).map D.int)
  refine ⟨_, _, p7, p8, T ++ [fr, tk], s_seqN (s_par ?_) (s_seqN e (s_expr (d := .non) (x_meth (x_var rfl) (ty_refL (xs := found.map D.str) ?_) rfl (x_cons (x_meth (x_var rfl) (ty_refL (xs := left.map D.str) ?_) rfl (x_cons (x_ixK (x_ixK (x_fix (ob := .lst (((freeL A left).mergeSort leP).map pairD)) (x_bfN (x_cons (x_var rfl) x_nil) (sorted_pairs hne (by omega) (seq_ref ?_) ?_))) x_c (ix_nat (xs := ((freeL A left).mergeSort leP).map pairD) (j := 0) (x := pairD k) rfl ?_)) x_c ix1) x_nil) (pop_at (j := k.2) (xs := left.map D.str) (d := .str k.1) ?_ ?_ (by rw [List.length_map]; omega))) x_nil) ?_))), fun ht ob ho => ?_⟩
  · exact thaw2
  · show ((S ++ Ob.lst (left.map D.str) :: .lst (found.map .str) :: T) ++ [fr, tk])[S.length + 1]? = _
    rw [List.append_assoc]
    exact gp1
  · show ((S ++ Ob.lst (left.map D.str) :: .lst (found.map .str) :: T) ++ [fr, tk])[S.length]? = _
    rw [List.append_assoc]
    exact gp0
  · exact gp0
  · show isL (smX (S ++ Ob.lst (left.map D.str) :: .lst (found.map .str) :: T) A left) (.ref (S ++ Ob.lst (left.map D.str) :: .lst (found.map .str) :: T).length) = true
    unfold isL
    have g : (smX (S ++ Ob.lst (left.map D.str) :: .lst (found.map .str) :: T) A left)[(S ++ Ob.lst (left.map D.str) :: .lst (found.map .str) :: T).length]? = some fr := gp0
    simp only [g]
  · have hd := sortP_head (freeL A left)
    rw [hk, List.head?_eq_getElem?] at hd
    rw [List.getElem?_map, hd]; rfl
  · show ((S ++ Ob.lst (left.map D.str) :: .lst (found.map .str) :: T) ++ [fr, tk])[S.length]? = _
    rw [List.append_assoc]
    exact gp0
  · rw [List.getElem?_map, ej]; rfl
  · show appendD (.ref (S.length + 1)) [.str k.1] (((S ++ Ob.lst (left.map D.str) :: .lst (found.map .str) :: T) ++ [fr, tk]).set S.length (.lst ((left.map D.str).eraseIdx k.2))) = .ok .non _
    rw [List.append_assoc, List.cons_append, List.cons_append, sp0]
    refine (app_at gp1 (by rw [List.length_map]; omega)).trans ?_
    rw [sp1, List.map_append, map_erase]
    rfl
  · rcases List.mem_append.mp ho with q | q
    · exact ht ob q
    · simp only [List.mem_cons, List.not_mem_nil, or_false] at q
      rcases q with rfl | rfl
      · exact lowL_map fun _ _ => rfl
      · exact lowL_map fun _ _ => rfl
end
end A1
end
section
set_option Elab.async false
set_option linter.all false
set_option maxRecDepth 100000
set_option maxHeartbeats 4000000
set_option autoImplicit false
/-! plain: levels and layers -/
namespace A1
open PySem PL
/-- the greatest of numbers, 0 of none -/
def sup (l : List Nat) : Nat := l.foldl max 0
theorem foldl_max_le : ∀ {l : List Nat} {a n : Nat}, l.foldl max a ≤ n ↔ a ≤ n ∧ ∀ x ∈ l, x ≤ n
  | [], a, n => by simp
  | y :: l, a, n => by
    rw [List.foldl_cons, foldl_max_le (l := l)]
    constructor
    · rintro ⟨h1, h2⟩
      refine ⟨by omega, fun x hx => ?_⟩
      rcases List.mem_cons.mp hx with q | q
      · subst q; omega
      · exact h2 x q
    · rintro ⟨h1, h2⟩
      have := h2 y (by simp)
      exact ⟨by omega, fun x hx => h2 x (List.mem_cons_of_mem _ hx)⟩
theorem sup_le {l : List Nat} {n : Nat} : sup l ≤ n ↔ ∀ x ∈ l, x ≤ n := by
  unfold sup
  rw [foldl_max_le]
  simp
theorem le_sup {l : List Nat} {x : Nat} (h : x ∈ l) : x ≤ sup l := sup_le.mp (Nat.le_refl _) x h
theorem sup_app {l r : List Nat} : sup (l ++ r) = max (sup l) (sup r) := by
  refine Nat.le_antisymm (sup_le.mpr fun x hx => ?_) ?_
  · rcases List.mem_append.mp hx with q | q
    · have := le_sup q; omega
    · have := le_sup q; omega
  · have a : sup l ≤ sup (l ++ r) := sup_le.mpr fun x hx => le_sup (List.mem_append_left _ hx)
    have b : sup r ≤ sup (l ++ r) := sup_le.mpr fun x hx => le_sup (List.mem_append_right _ hx)
    omega
theorem sup_perm {l r : List Nat} (h : l.Perm r) : sup l = sup r := Nat.le_antisymm (sup_le.mpr fun _ hx => le_sup (h.mem_iff.mp hx)) (sup_le.mpr fun _ hx => le_sup (h.mem_iff.mpr hx))
theorem sup_one {n : Nat} : sup [n] = n := by simp [sup]
section
variable {A : Alph}
/-- the level of a letter, where each process stands at a level -/
def lvl (A : Alph) (lv : Nat → Nat) (z : Str) : Nat := sup ((plc A z).map fun p => lv p.toNat)
def lvUp (A : Alph) (lv : Nat → Nat) (z : Str) : Nat → Nat := fun j => if (j : Int) ∈ plc A z then lvl A lv z + 1 else lv j
def levelsF (A : Alph) : (Nat → Nat) → List Str → List Nat
  | _, [] => []
  | lv, z :: w => (lvl A lv z + 1) :: levelsF A (lvUp A lv z) w
def lvAll (A : Alph) : (Nat → Nat) → List Str → Nat → Nat
  | lv, [] => lv
  | lv, z :: w => lvAll A (lvUp A lv z) w
theorem levelsF_app {lv : Nat → Nat} : ∀ {l r : List Str}, levelsF A lv (l ++ r) = levelsF A lv l ++ levelsF A (lvAll A lv l) r := by
  intro l
  induction l generalizing lv with
  | nil => intro r; rfl
  | cons z l ih => intro r; rw [List.cons_append, levelsF, levelsF, lvAll, ih]; rfl
theorem lvAll_app {lv : Nat → Nat} : ∀ {l r : List Str}, lvAll A lv (l ++ r) = lvAll A (lvAll A lv l) r := by
  intro l
  induction l generalizing lv with
  | nil => intro r; rfl
  | cons z l ih => intro r; rw [List.cons_append, lvAll, lvAll, ih]
theorem levelsF_len {lv : Nat → Nat} {w : List Str} : (levelsF A lv w).length = w.length := by
  induction w generalizing lv with
  | nil => rfl
  | cons z w ih => rw [levelsF, List.length_cons, ih, List.length_cons]
/-- letters with their levels -/
def lvPairs (A : Alph) (w : List Str) : List (Str × Nat) := w.zip (levelsF A (fun _ => 0) w)
def layerAt (ps : List (Str × Nat)) (l : Nat) : List Str := (ps.filter fun q => decide (q.2 = l + 1)).map (·.1)
def layersOf (ps : List (Str × Nat)) : List (List Str) := (List.range (sup (ps.map (·.2)))).map (layerAt ps)
theorem layerAt_app {ps qs : List (Str × Nat)} {l : Nat} : layerAt (ps ++ qs) l = layerAt ps l ++ layerAt qs l := by simp [layerAt]
/-- one letter more, at level m + 1, no deeper than the layers -/
theorem layersOf_snoc {ps : List (Str × Nat)} {z : Str} {m : Nat} (hm : m ≤ sup (ps.map (·.2))) :
    layersOf (ps ++ [(z, m + 1)]) = if m = (layersOf ps).length then layersOf ps ++ [[z]] else (layersOf ps).set m (layerAt ps m ++ [z]) := by
  have len : (layersOf ps).length = sup (ps.map (·.2)) := by simp [layersOf]
  have sp : sup ((ps ++ [(z, m + 1)]).map (·.2)) = max (sup (ps.map (·.2))) (m + 1) := by rw [List.map_append, sup_app]; simp [sup_one]
  have at_ : ∀ l, layerAt (ps ++ [(z, m + 1)]) l = layerAt ps l ++ if l = m then [z] else [] := fun l => by
    rw [layerAt_app]
    congr 1
    by_cases c : l = m
    · subst c; simp [layerAt]
    · have : ¬ m = l := fun e => c e.symm
      simp [layerAt, c, this]
  rw [len]
  by_cases c : m = sup (ps.map (·.2))
  · rw [if_pos c]
    unfold layersOf
    rw [sp, show max (sup (ps.map (·.2))) (m + 1) = sup (ps.map (·.2)) + 1 by omega, List.range_succ, List.map_append]
    congr 1
    · refine List.map_congr_left fun l hl => ?_
      have := List.mem_range.mp hl
      rw [at_, if_neg (by omega), List.append_nil]
    · rw [List.map_cons, List.map_nil, at_, if_pos c.symm]
      have : layerAt ps (sup (ps.map (·.2))) = [] := by
        unfold layerAt
        rw [List.filter_eq_nil_iff.mpr fun q hq => ?_]
        · rfl
        · have := le_sup (List.mem_map.mpr ⟨q, hq, rfl⟩ : q.2 ∈ ps.map (·.2))
          simp; omega
      rw [this]; rfl
  · rw [if_neg c]
    unfold layersOf
    rw [sp, show max (sup (ps.map (·.2))) (m + 1) = sup (ps.map (·.2)) by omega]
    refine List.ext_getElem? fun l => ?_
    rw [List.getElem?_set, List.length_map, List.length_range, List.getElem?_map, List.getElem?_map]
    by_cases hl : l < sup (ps.map (·.2))
    · rw [List.getElem?_range hl, Option.map_some, Option.map_some, at_]
      by_cases e : m = l
      · subst e; rw [if_pos rfl, if_pos rfl, if_pos hl]
      · rw [if_neg (fun z => e z.symm), if_neg e, List.append_nil]
    · rw [List.getElem?_eq_none (by rw [List.length_range]; omega)]
      rw [if_neg (by omega)]
      rfl
/-- processes stand no deeper than there are layers -/
theorem lvAll_le {w : List Str} : ∀ {lv : Nat → Nat} {n : Nat}, (∀ j, lv j ≤ n) → ∀ j, lvAll A lv w j ≤ max n (sup (levelsF A lv w)) := by
  induction w with
  | nil => intro lv n h j; have := h j; show lv j ≤ _; omega
  | cons z w ih =>
    intro lv n h j
    have hz : lvl A lv z ≤ n := sup_le.mpr fun x hx => by
      obtain ⟨p, _, rfl⟩ := List.mem_map.mp hx
      exact h _
    have := ih (lv := lvUp A lv z) (n := max n (lvl A lv z + 1)) (fun i => by
      unfold lvUp
      split
      · omega
      · have := h i; omega) j
    have e : sup (levelsF A lv (z :: w)) = max (lvl A lv z + 1) (sup (levelsF A (lvUp A lv z) w)) := by
      rw [levelsF, show (lvl A lv z + 1) :: levelsF A (lvUp A lv z) w = [lvl A lv z + 1] ++ levelsF A (lvUp A lv z) w from rfl, sup_app, sup_one]
    rw [e]
    show lvAll A (lvUp A lv z) w j ≤ _
    omega
theorem pairs_snd {w : List Str} : (lvPairs A w).map (·.2) = levelsF A (fun _ => 0) w := by
  unfold lvPairs
  rw [List.map_snd_zip]
  rw [levelsF_len]; exact Nat.le_refl _
theorem lvl_le {w : List Str} {z : Str} : lvl A (lvAll A (fun _ => 0) w) z ≤ sup ((lvPairs A w).map (·.2)) := by
  rw [pairs_snd]
  refine sup_le.mpr fun x hx => ?_
  obtain ⟨p, _, rfl⟩ := List.mem_map.mp hx
  have := lvAll_le (A := A) (w := w) (lv := fun _ => 0) (n := 0) (fun _ => Nat.le_refl _) p.toNat
  omega
theorem pairs_snoc {w : List Str} {z : Str} : lvPairs A (w ++ [z]) = lvPairs A w ++ [(z, lvl A (lvAll A (fun _ => 0) w) z + 1)] := by
  unfold lvPairs
  rw [levelsF_app, List.zip_append (by rw [levelsF_len])]
  rfl
/-- neighbours that share no process -/
theorem lvUp_comm (h : AlphOk A) {a b : Str} (ha : a ∈ letters A) (hb : b ∈ letters A) (ap : ∀ p, ¬ (a ∈ own A p ∧ b ∈ own A p)) {lv : Nat → Nat} : lvl A (lvUp A lv a) b = lvl A lv b ∧ lvUp A (lvUp A lv a) b = lvUp A (lvUp A lv b) a := by
  have ap' : ∀ p, p ∈ plc A a → p ∈ plc A b → False := fun p pa pb => ap p ⟨(plc_own h ha p).mpr pa, (plc_own h hb p).mpr pb⟩
  have key : ∀ {a b : Str}, b ∈ letters A → (∀ p, p ∈ plc A a → p ∈ plc A b → False) → lvl A (lvUp A lv a) b = lvl A lv b := fun {a b} hb ap' => by
    unfold lvl
    congr 1
    refine List.map_congr_left fun p hp => ?_
    have k := (plc_in h hb p hp).1
    have e : ((p.toNat : Nat) : Int) = p := Int.toNat_of_nonneg k
    show (if ((p.toNat : Nat) : Int) ∈ plc A a then _ else _) = _
    rw [e, if_neg fun z => ap' p z hp]
  refine ⟨key hb ap', funext fun j => ?_⟩
  have k1 := key hb ap'
  have k2 := key ha fun p x y => ap' p y x
  show (if (j : Int) ∈ plc A b then lvl A (lvUp A lv a) b + 1 else if (j : Int) ∈ plc A a then lvl A lv a + 1 else lv j) = if (j : Int) ∈ plc A a then lvl A (lvUp A lv b) a + 1 else if (j : Int) ∈ plc A b then lvl A lv b + 1 else lv j
  rw [k1, k2]
  by_cases c : (j : Int) ∈ plc A b
  · rw [if_pos c, if_pos c, if_neg fun z => ap' _ z c]
  · rw [if_neg c, if_neg c]
theorem pairs_one (h : AlphOk A) {x y : List Str} (hx : ∀ z ∈ x, z ∈ letters A) (o : One A x y) : (lvPairs A y).Perm (lvPairs A x) := by
  rcases o with rfl | ⟨i, a, b, ea, eb, ap, rfl⟩
  · exact List.Perm.refl _
  · obtain ⟨l, r, rfl, rfl⟩ := split_two ea eb
    rw [set_two]
    have ha : a ∈ letters A := hx a (by simp)
    have hb : b ∈ letters A := hx b (by simp)
    obtain ⟨k1, k2⟩ := lvUp_comm h ha hb ap (lv := lvAll A (fun _ => 0) l)
    obtain ⟨k3, _⟩ := lvUp_comm h hb ha (fun p z => ap p ⟨z.2, z.1⟩) (lv := lvAll A (fun _ => 0) l)
    unfold lvPairs
    rw [levelsF_app, levelsF_app, List.zip_append (by rw [levelsF_len]), List.zip_append (by rw [levelsF_len])]
    refine List.Perm.append_left _ ?_
    show (((b, _) :: (a, _) :: _) : List (Str × Nat)).Perm ((a, _) :: (b, _) :: _)
    rw [k1, k3, k2]
    exact List.Perm.swap _ _ _
theorem swaps_ok {x y : List Str} (hx : ∀ z ∈ x, z ∈ letters A) (s : Swaps A x y) : ∀ z ∈ y, z ∈ letters A := by
  induction s with
  | refl => exact hx
  | step s o ih =>
    rcases o with rfl | ⟨i, a, b, ea, eb, ap, rfl⟩
    · exact ih
    · intro z hz
      rcases List.mem_or_eq_of_mem_set hz with q | q
      · rcases List.mem_or_eq_of_mem_set q with q | q
        · exact ih z q
        · rw [q]; exact ih b (List.mem_of_getElem? eb)
      · rw [q]; exact ih a (List.mem_of_getElem? ea)
theorem pairs_swaps (h : AlphOk A) {x y : List Str} (hx : ∀ z ∈ x, z ∈ letters A) (s : Swaps A x y) : (lvPairs A y).Perm (lvPairs A x) := by
  induction s with
  | refl => exact List.Perm.refl _
  | step s o ih => exact (pairs_one h (swaps_ok hx s) o).trans ih
theorem swaps_len {x y : List Str} (s : Swaps A x y) : y.length = x.length := by
  induction s with
  | refl => rfl
  | step s o ih =>
    rcases o with rfl | ⟨i, a, b, ea, eb, ap, rfl⟩
    · exact ih
    · rw [List.length_set, List.length_set]; exact ih
end
end A1
end
section
set_option Elab.async false
set_option linter.all false
set_option maxRecDepth 100000
set_option maxHeartbeats 4000000
set_option autoImplicit false
/-! plain: strings sorted; layers as the program finds them -/
namespace A1
open PySem PL
section
variable {S : Sto}
def leS (x y : Str) : Bool := !decide (strLt y x)
theorem leS_iff {x y : Str} : leS x y = true ↔ ¬ strLt y x := by simp [leS]
def sortS (l : List Str) : List Str := l.mergeSort leS
theorem sortS_pw (l : List Str) : (sortS l).Pairwise fun x y => leS x y = true := List.pairwise_mergeSort (le := leS) (fun a b c h g => by
    rw [leS_iff] at *
    intro z
    rcases strLt_total a b with q | q | q
    · exact g (strLt_trans z q)
    · subst q; exact g z
    · exact h q) (fun a b => by
    rw [Bool.or_eq_true, leS_iff, leS_iff]
    rcases strLt_total a b with q | q | q
    · exact .inl fun z => strLt_irrefl (strLt_trans z q)
    · subst q; exact .inl strLt_irrefl
    · exact .inr fun z => strLt_irrefl (strLt_trans z q)) l
theorem pw_perm_eq : ∀ {l r : List Str}, l.Perm r → l.Pairwise (fun x y => leS x y = true) → r.Pairwise (fun x y => leS x y = true) → l = r
  | [], r, h, _, _ => (List.nil_perm.mp h).symm
  | x :: l, [], h, _, _ => absurd h.length_eq (by simp)
  | x :: l, y :: r, h, hl, hr => by
    have hl' := List.pairwise_cons.mp hl
    have hr' := List.pairwise_cons.mp hr
    have e : x = y := by
      have hx : x ∈ y :: r := h.mem_iff.mp (by simp)
      have hy : y ∈ x :: l := h.mem_iff.mpr (by simp)
      rcases List.mem_cons.mp hx with q | q
      · exact q
      · rcases List.mem_cons.mp hy with q' | q'
        · exact q'.symm
        · have a := leS_iff.mp (hl'.1 y q')
          have b := leS_iff.mp (hr'.1 x q)
          rcases strLt_total x y with z | z | z
          · exact absurd z b
          · exact z
          · exact absurd z a
    subst e
    rw [pw_perm_eq (List.Perm.cons_inv h) hl'.2 hr'.2]
theorem sortS_perm {l r : List Str} (h : l.Perm r) : sortS l = sortS r := pw_perm_eq (((List.mergeSort_perm l leS).trans h).trans (List.mergeSort_perm r leS).symm) (sortS_pw l) (sortS_pw r)
theorem sortS_mem {l : List Str} {z : Str} : z ∈ sortS l ↔ z ∈ l := (List.mergeSort_perm l leS).mem_iff
theorem sortS_len {l : List Str} : (sortS l).length = l.length := (List.mergeSort_perm l leS).length_eq
theorem py_str (x : Str) : py S (.str x) = some (.str x) := rfl
theorem sorted_strs {xs : List Str} (hl : xs.length ≤ 10000) {v : D} (hs : seqOf S v = some (xs.map D.str)) (hi : isL S v = true) : sortedN [v] S = .ok (.lst ((sortS xs).map D.str)) S := by
  have e1 : optAll (py S) (xs.map D.str) = some (xs.map PyData.str) := optAll_map py_str xs
  have e2 : sortD S (xs.map D.str) = (sortS xs).map D.str := by
    unfold sortD sortS
    rw [List.map_mergeSort fun a _ b _ => ?_]
    show leS a b = (!PySem.W.dataLt (enc S (.str b)) (enc S (.str a)))
    have enS : ∀ x : Str, enc S (.str x) = .str x := fun x => by unfold enc; rw [py_str]; rfl
    rw [enS, enS, PySem.W.dataLt_str]
    rfl
  have ok : sortOk (xs.map PyData.str) = true := by
    unfold sortOk
    have a1 : ((xs.map PyData.str).all fun p => (xs.map PyData.str).all fun q => PySem.W.alike p q) = true := by
      refine List.all_eq_true.mpr fun p hp => List.all_eq_true.mpr fun q hq => ?_
      obtain ⟨r, _, rfl⟩ := List.mem_map.mp hp
      obtain ⟨t, _, rfl⟩ := List.mem_map.mp hq
      simp [PySem.W.alike]
    have : (xs.map PyData.str).length ≤ sizeLine := by rw [List.length_map]; exact size_le hl
    refine Bool.and_eq_true_iff.mpr ⟨Bool.and_eq_true_iff.mpr ⟨a1, Bool.or_eq_true_iff.mpr (.inr (List.all_eq_true.mpr fun p hp => ?_))⟩, decide_eq_true this⟩
    obtain ⟨r, _, rfl⟩ := List.mem_map.mp hp
    rfl
  unfold sortedN
  simp only [hs, hi, e1, ok, if_true, e2]
/-! max of numbers -/
theorem maxI_eq : ∀ (l : List Nat) (a : Nat), maxI (a : Int) (l.map fun (n : Nat) => (n : Int)) = ((l.foldl max a : Nat) : Int)
  | [], a => rfl
  | x :: l, a => by
    show (l.map fun (n : Nat) => (n : Int)).foldl (fun m j => if j > m then j else m) (if (x : Int) > (a : Int) then (x : Int) else (a : Int)) = _
    have e : (if (x : Int) > (a : Int) then (x : Int) else (a : Int)) = ((max a x : Nat) : Int) := by split <;> omega
    rw [e]
    exact maxI_eq l (max a x)
theorem ints_of : ∀ l : List Nat, intsOf (l.map fun (n : Nat) => D.int (n : Int)) = some (l.map fun (n : Nat) => (n : Int))
  | [] => rfl
  | x :: l => by simp [intsOf, ints_of l]
theorem max_lst {l : List Nat} (h : l ≠ []) : maxD [.lst (l.map fun (n : Nat) => D.int (n : Int))] S = .ok (.int (sup l : Int)) S := by
  cases l with
  | nil => exact absurd rfl h
  | cons x l =>
    have e := ints_of (x :: l)
    have s : (seqOf S (.lst ((x :: l).map fun (n : Nat) => D.int (n : Int)))).bind intsOf = some ((x :: l).map fun (n : Nat) => (n : Int)) := e
    unfold maxD
    simp only [s, isL]
    show Res.ok (D.int (maxI (x : Int) (l.map fun (n : Nat) => (n : Int)))) S = _
    rw [maxI_eq]
    unfold sup
    rw [List.foldl_cons, Nat.zero_max]
/-! the store while layers are found -/
def lvD (A : Alph) (lv : Nat → Nat) : List D := (List.range A.many).map fun (j : Nat) => D.int (lv j : Int)
def refsD (l k : Nat) : List D := (List.range k).map fun i => D.ref (l + 2 + i)
def fdO (fd : List (List Str)) : Sto := fd.map fun l => Ob.lst (l.map D.str)
abbrev laX (S : Sto) (A : Alph) (lv : Nat → Nat) (fd : List (List Str)) : Sto := S ++ .lst (lvD A lv) :: .lst (refsD S.length fd.length) :: fdO fd
abbrev laF (A : Alph) (x : List Str) (l : Nat) (o5 o6 o7 o8 : Option D) : Fr := [some A.d, some (wordD x), some (.dct false (placesD A.rows)), some (.ref l), some (.ref (l + 1)), o5, o6, o7, o8]
theorem gp2 {S F : Sto} {a b : Ob} {m : Nat} : (S ++ a :: b :: F)[S.length + 2 + m]? = F[m]? := by
  rw [List.getElem?_append_right (by omega), show S.length + 2 + m - S.length = m + 1 + 1 by omega]; rfl
theorem sp2 {S F : Sto} {a b c : Ob} {m : Nat} : (S ++ a :: b :: F).set (S.length + 2 + m) c = S ++ a :: b :: F.set m c := by
  rw [List.set_append_right _ _ (by omega), show S.length + 2 + m - S.length = m + 1 + 1 by omega]; rfl
theorem lv_at {A : Alph} {lv : Nat → Nat} {F : Sto} {b : Ob} {j : Nat} (hj : j < A.many) : ixD (.ref S.length) (.int (j : Int)) (S ++ .lst (lvD A lv) :: b :: F) = .ok (.int (lv j : Int)) (S ++ .lst (lvD A lv) :: b :: F) := ix_ref gp0 (by unfold lvD; rw [List.getElem?_map, List.getElem?_range hj]; rfl)
abbrev laB1 : St' := sSet (.nm 6) (eBf maxD (aCons (eFixN (nLst (lLC (.nm 7) (iOf (eIx (eVar 2) (eVar 5))) bYes (eIx (eVar 3) (eVar 7)) [7]))) aNil))
abbrev laB2 : St' := sIf (bCmp .Eq (eVar 6) (eBf lenD (aCons (eVar 4) aNil))) (sExpr (eMeth [("list", appendD)] (eVar 4) (aCons (eThaw (nLst (lLst aNil))) aNil))) sNext
abbrev laB3 : St' := sExpr (eMeth [("list", appendD)] (eIx (eVar 4) (eVar 6)) (aCons (eVar 5) aNil))
abbrev laB4 : St' := sFor (.nm 7) (iOf (eIx (eVar 2) (eVar 5))) (sPut (eVar 3) (eVar 7) (eBin .Add (eVar 6) (eC (.int 1))))
theorem la1 {A : Alph} (h : AlphOk A) {x : List Str} {z : Str} (hz : z ∈ letters A) {lv : Nat → Nat} {fd : List (List Str)} (o6 o7 o8 : Option D) :
    laB1 (laF A x S.length (some (.str z)) o6 o7 o8) (laX S A lv fd) = .nx (laF A x S.length (some (.str z)) (some (.int (lvl A lv z : Int))) o7 o8) (laX S A lv fd) := by
  have lc : lLC (.nm 7) (iOf (eIx (eVar 2) (eVar 5))) bYes (eIx (eVar 3) (eVar 7)) [7] (laF A x S.length (some (.str z)) o6 o7 o8) (laX S A lv fd) = .ok ((plc A z).map fun p => D.int (lv p.toNat : Int)) (laX S A lv fd) := by
    refine lLC_all (s := .one (.fix ((plc A z).map D.int))) (e := D.int) (fun p => D.int (lv p.toNat : Int)) (i_of (x_ixK (x_var rfl) (x_var rfl) (place_plc h hz)) rfl) rfl (by have := plc_len h hz; omega) fun p hp => ⟨laF A x S.length (some (.str z)) o6 (some (.int p)) o8, rfl, ?_⟩
    obtain ⟨k1, k2⟩ := plc_in h hz p hp
    obtain ⟨j, rfl⟩ := Int.eq_ofNat_of_zero_le k1
    rw [Int.toNat_natCast]
    exact x_ixK (x_var rfl) (x_var rfl) (lv_at (by omega))
  have mx := max_lst (S := laX S A lv fd) (l := (plc A z).map fun p => lv p.toNat) (by
    have := plc_ne h hz
    cases q : plc A z with
    | nil => exact absurd q this
    | cons a b => simp)
  rw [List.map_map] at mx
  exact s_set (x_bf (x_cons (x_fix (x_nLst lc)) x_nil) mx)
theorem la2 {A : Alph} {x : List Str} {z : Str} {m : Nat} {lv : Nat → Nat} {fd : List (List Str)} (hf : fd.length < 300) (o7 o8 : Option D) :
    laB2 (laF A x S.length (some (.str z)) (some (.int (m : Int))) o7 o8) (laX S A lv fd) = .nx (laF A x S.length (some (.str z)) (some (.int (m : Int))) o7 o8) (laX S A lv (if m = fd.length then fd ++ [[]] else fd)) := by
  have ln : lenD [.ref (S.length + 1)] (laX S A lv fd) = .ok (.int (fd.length : Int)) (laX S A lv fd) := by
    have hlen : (refsD S.length fd.length).length = fd.length := by simp [refsD]
    rw [len_refL (xs := refsD S.length fd.length) gp1, hlen]
  have test : bCmp .Eq (eVar 6) (eBf lenD (aCons (eVar 4) aNil)) (laF A x S.length (some (.str z)) (some (.int (m : Int))) o7 o8) (laX S A lv fd) = .ok (decide ((m : Int) = (fd.length : Int))) (laX S A lv fd) := y_cmpK (x_var rfl) (x_bf (x_cons (x_var rfl) x_nil) ln) eq_int
  by_cases c : m = fd.length
  · rw [decide_eq_true (by omega)] at test
    rw [if_pos c]
    have len : (laX S A lv fd).length = S.length + 2 + fd.length := by simp [fdO]; omega
    refine s_ifT test (s_expr (d := .non) (x_meth (x_var rfl) (ty_refL (xs := refsD S.length fd.length) gp1) rfl (x_cons (x_thaw (x_nLst (x_lLst x_nil (Nat.zero_le _)))) x_nil) ?_))
    show appendD (.ref (S.length + 1)) [.ref (laX S A lv fd).length] ((S ++ Ob.lst (lvD A lv) :: .lst (refsD S.length fd.length) :: fdO fd) ++ [.lst []]) = _
    rw [List.append_assoc, List.cons_append, List.cons_append, len]
    refine (app_at gp1 (by unfold refsD; rw [List.length_map, List.length_range]; omega)).trans ?_
    rw [sp1]
    have e1 : refsD S.length (fd ++ [[]]).length = refsD S.length fd.length ++ [.ref (S.length + 2 + fd.length)] := by
      unfold refsD
      rw [List.length_append, List.length_singleton, List.range_succ, List.map_append]; rfl
    have e2 : fdO (fd ++ [[]]) = fdO fd ++ [.lst []] := by unfold fdO; rw [List.map_append]; rfl
    show _ = Res.ok D.non (S ++ Ob.lst (lvD A lv) :: .lst (refsD S.length (fd ++ [[]]).length) :: fdO (fd ++ [[]]))
    rw [e1, e2]
  · rw [decide_eq_false (by omega)] at test
    rw [if_neg c]
    exact s_ifF test rfl
theorem la3 {A : Alph} {x : List Str} {z : Str} {m : Nat} {lv : Nat → Nat} {fd : List (List Str)} {l : List Str} (hm : fd[m]? = some l) (hl : l.length < 1000) (o7 o8 : Option D) :
    laB3 (laF A x S.length (some (.str z)) (some (.int (m : Int))) o7 o8) (laX S A lv fd) = .nx (laF A x S.length (some (.str z)) (some (.int (m : Int))) o7 o8) (laX S A lv (fd.set m (l ++ [z]))) := by
  have hlt := (List.getElem?_eq_some_iff.mp hm).1
  have ix : ixD (.ref (S.length + 1)) (.int (m : Int)) (laX S A lv fd) = .ok (.ref (S.length + 2 + m)) (laX S A lv fd) := ix_ref (xs := refsD S.length fd.length) gp1 (by unfold refsD; rw [List.getElem?_map, List.getElem?_range hlt]; rfl)
  have ob : (laX S A lv fd)[S.length + 2 + m]? = some (.lst (l.map D.str)) := by
    rw [gp2]
    unfold fdO
    rw [List.getElem?_map, hm]; rfl
  refine s_expr (d := .non) (x_meth (x_ixK (x_var rfl) (x_var rfl) ix) (ty_refL ob) rfl (x_cons (x_var rfl) x_nil) ?_)
  refine (app_at ob (by rw [List.length_map]; omega)).trans ?_
  rw [sp2]
  have e1 : (fdO fd).set m (.lst (l.map D.str ++ [.str z])) = fdO (fd.set m (l ++ [z])) := by
    unfold fdO
    rw [List.map_set, List.map_append]; rfl
  show _ = Res.ok D.non (S ++ Ob.lst (lvD A lv) :: .lst (refsD S.length (fd.set m (l ++ [z])).length) :: fdO (fd.set m (l ++ [z])))
  rw [e1, List.length_set]
end
end A1
end
section
set_option Elab.async false
set_option linter.all false
set_option maxRecDepth 100000
set_option maxHeartbeats 4000000
set_option autoImplicit false
/-! plain: layers -/
namespace A1
open PySem PL
section
variable {S : Sto}
theorem lvD_set {A : Alph} {lv : Nat → Nat} {j v : Nat} : (lvD A lv).set j (.int (v : Int)) = lvD A fun i => if i = j then v else lv i := by
  refine List.ext_getElem? fun i => ?_
  unfold lvD
  rw [List.getElem?_set, List.length_map, List.length_range, List.getElem?_map, List.getElem?_map]
  by_cases hi : i < A.many
  · rw [List.getElem?_range hi]
    by_cases e : j = i
    · subst e; simp [hi]
    · have : ¬ i = j := fun z => e z.symm
      simp [e, this]
  · rw [List.getElem?_eq_none (by rw [List.length_range]; omega)]
    by_cases e : j = i
    · subst e; simp [hi]
    · simp [e]
theorem la4 {A : Alph} (h : AlphOk A) {x : List Str} {z : Str} (hz : z ∈ letters A) {m : Nat} {lv : Nat → Nat} {fd : List (List Str)} (o7 o8 : Option D) :
    ∃ p7, laB4 (laF A x S.length (some (.str z)) (some (.int (m : Int))) o7 o8) (laX S A lv fd) = .nx (laF A x S.length (some (.str z)) (some (.int (m : Int))) p7 o8) (laX S A (fun j => if (j : Int) ∈ plc A z then m + 1 else lv j) fd) := by
  have len : ((plc A z).map D.int).length = (plc A z).length := List.length_map _
  refine sFor_inv (its := (plc A z).map D.int) (s := .one (.fix ((plc A z).map D.int))) (S0 := laX S A lv fd)
    (fun i ρ X => ∃ p7, ρ = laF A x S.length (some (.str z)) (some (.int (m : Int))) p7 o8 ∧ X = laX S A (fun j => if (j : Int) ∈ (plc A z).take i then m + 1 else lv j) fd)
    (fun r => ∃ p7, r = .nx (laF A x S.length (some (.str z)) (some (.int (m : Int))) p7 o8) (laX S A (fun j => if (j : Int) ∈ plc A z then m + 1 else lv j) fd)) (i_of (x_ixK (x_var rfl) (x_var rfl) (place_plc h hz)) rfl) rfl ⟨o7, rfl, by simp⟩ ?_ ?_
  · rintro i d ρ X hd ⟨p7, rfl, rfl⟩
    rw [List.getElem?_map] at hd
    cases hp : (plc A z)[i]? with
    | none => rw [hp] at hd; cases hd
    | some p =>
      rw [hp] at hd
      obtain rfl := Option.some.inj hd
      obtain ⟨k1, k2⟩ := plc_in h hz p (List.mem_of_getElem? hp)
      obtain ⟨j, rfl⟩ := Int.eq_ofNat_of_zero_le k1
      refine ⟨_, rfl, ?_⟩
      have st : sPut (eVar 3) (eVar 7) (eBin .Add (eVar 6) (eC (.int 1))) (laF A x S.length (some (.str z)) (some (.int (m : Int))) (some (.int (j : Int))) o8) (laX S A (fun j => if (j : Int) ∈ (plc A z).take i then m + 1 else lv j) fd) = .nx (laF A x S.length (some (.str z)) (some (.int (m : Int))) (some (.int (j : Int))) o8) (laX S A (fun j => if (j : Int) ∈ (plc A z).take (i + 1) then m + 1 else lv j) fd) := by
        refine s_put (x_binK (x_var rfl) x_c (add_ok (i := (m : Int)) (j := 1))) (x_var rfl) (x_var rfl) ?_
        refine (put_ref gp0 (by simp [lvD]; omega)).trans ?_
        rw [sp0, show ((m : Int) + 1) = ((m + 1 : Nat) : Int) by omega, lvD_set]
        congr 3
        congr 1
        congr 1
        funext a
        rw [List.take_succ, hp]
        by_cases e : a = j
        · subst e; simp
        · have : ¬ ((a : Int) = (j : Int)) := by omega
          simp [e, this]
      show match sPut (eVar 3) (eVar 7) (eBin .Add (eVar 6) (eC (.int 1))) (laF A x S.length (some (.str z)) (some (.int (m : Int))) (some (.int (j : Int))) o8) (laX S A (fun j => if (j : Int) ∈ (plc A z).take i then m + 1 else lv j) fd) with
        | .nx ρ2 S2 => _
        | .ct ρ2 S2 => _
        | .bk ρ2 S2 => _
        | r => _
      rw [st]
      exact ⟨_, rfl, rfl⟩
  · rintro ρ X ⟨p7, rfl, rfl⟩
    rw [len, List.take_length]
    exact ⟨_, rfl⟩
theorem sup_levels {A : Alph} {w : List Str} : ∀ {lv : Nat → Nat} {n : Nat}, (∀ j, lv j ≤ n) → sup (levelsF A lv w) ≤ n + w.length := by
  induction w with
  | nil => intro lv n _; exact Nat.zero_le _
  | cons z w ih =>
    intro lv n h
    have hz : lvl A lv z ≤ n := sup_le.mpr fun x hx => by
      obtain ⟨p, _, rfl⟩ := List.mem_map.mp hx
      exact h _
    have := ih (lv := lvUp A lv z) (n := n + 1) (fun i => by
      unfold lvUp
      split
      · omega
      · have := h i; omega)
    rw [levelsF, show (lvl A lv z + 1) :: levelsF A (lvUp A lv z) w = [lvl A lv z + 1] ++ levelsF A (lvUp A lv z) w from rfl, sup_app, sup_one, List.length_cons]
    omega
theorem layers_len {A : Alph} {w : List Str} : (layersOf (lvPairs A w)).length ≤ w.length := by
  have := sup_levels (A := A) (w := w) (lv := fun _ => 0) (n := 0) fun _ => Nat.le_refl _
  unfold layersOf
  rw [List.length_map, List.length_range, pairs_snd]
  omega
theorem pairs_len {A : Alph} {w : List Str} : (lvPairs A w).length = w.length := by
  unfold lvPairs
  rw [List.length_zip, levelsF_len, Nat.min_self]
theorem layerAt_len {ps : List (Str × Nat)} {l : Nat} : (layerAt ps l).length ≤ ps.length := by
  unfold layerAt
  rw [List.length_map]
  exact List.length_filter_le ..
theorem layer_mem {A : Alph} {w l : List Str} (hl : l ∈ layersOf (lvPairs A w)) {z : Str} (hz : z ∈ l) : z ∈ w := by
  obtain ⟨k, _, rfl⟩ := List.mem_map.mp hl
  obtain ⟨q, hq, rfl⟩ := List.mem_map.mp hz
  exact (List.of_mem_zip (show (q.1, q.2) ∈ w.zip _ from (List.mem_filter.mp hq).1)).1
theorem layer_len {A : Alph} {w l : List Str} (hl : l ∈ layersOf (lvPairs A w)) : l.length ≤ w.length := by
  obtain ⟨k, _, rfl⟩ := List.mem_map.mp hl
  have := layerAt_len (ps := lvPairs A w) (l := k)
  rw [pairs_len] at this
  exact this
abbrev laB : St' := sSeq laB1 (sSeq laB2 (sSeq laB3 laB4))
theorem la_turn {A : Alph} (h : AlphOk A) {x w : List Str} {z : Str} (hz : z ∈ letters A) (hw : w.length < 250) (o6 o7 o8 : Option D) :
    ∃ p6 p7, laB (laF A x S.length (some (.str z)) o6 o7 o8) (laX S A (lvAll A (fun _ => 0) w) (layersOf (lvPairs A w))) = .nx (laF A x S.length (some (.str z)) p6 p7 o8) (laX S A (lvAll A (fun _ => 0) (w ++ [z])) (layersOf (lvPairs A (w ++ [z])))) := by
  have m1 := lvl_le (A := A) (w := w) (z := z)
  have l1 := layers_len (A := A) (w := w)
  have len : (layersOf (lvPairs A w)).length = sup ((lvPairs A w).map (·.2)) := by simp [layersOf]
  have sn := layersOf_snoc (ps := lvPairs A w) (z := z) m1
  rw [← pairs_snoc] at sn
  have e1 : lvAll A (fun _ => 0) (w ++ [z]) = fun (j : Nat) => if (j : Int) ∈ plc A z then lvl A (lvAll A (fun _ => 0) w) z + 1 else lvAll A (fun _ => 0) w j := by
    rw [lvAll_app]; rfl
  rw [e1]
  generalize hm : lvl A (lvAll A (fun _ => 0) w) z = m at *
  have b1 := la1 (S := S) (x := x) (fd := layersOf (lvPairs A w)) (lv := lvAll A (fun _ => 0) w) h hz o6 o7 o8
  rw [hm] at b1
  have b2 := la2 (S := S) (A := A) (x := x) (z := z) (m := m) (fd := layersOf (lvPairs A w)) (lv := lvAll A (fun _ => 0) w) (by omega) o7 o8
  obtain ⟨l, hl, hll, es⟩ : ∃ l, (if m = (layersOf (lvPairs A w)).length then layersOf (lvPairs A w) ++ [[]] else layersOf (lvPairs A w))[m]? = some l ∧ l.length < 1000 ∧ (if m = (layersOf (lvPairs A w)).length then layersOf (lvPairs A w) ++ [[]] else layersOf (lvPairs A w)).set m (l ++ [z]) = layersOf (lvPairs A (w ++ [z])) := by
    rw [sn]
    by_cases c : m = (layersOf (lvPairs A w)).length
    · refine ⟨[], ?_, by simp, ?_⟩
      · rw [if_pos c, List.getElem?_append_right (by omega), c, Nat.sub_self]; rfl
      · rw [if_pos c, if_pos c, List.set_append_right _ _ (by omega), c, Nat.sub_self]; rfl
    · refine ⟨layerAt (lvPairs A w) m, ?_, ?_, ?_⟩
      · rw [if_neg c]
        unfold layersOf
        rw [List.getElem?_map, List.getElem?_range (by omega)]; rfl
      · have := layerAt_len (ps := lvPairs A w) (l := m)
        rw [pairs_len] at this
        omega
      · rw [if_neg c, if_neg c]
  have b3 := la3 (S := S) (A := A) (x := x) (z := z) (m := m) (lv := lvAll A (fun _ => 0) w) hl hll o7 o8
  rw [es] at b3
  obtain ⟨p7, b4⟩ := la4 (S := S) (x := x) (m := m) (lv := lvAll A (fun _ => 0) w) (fd := layersOf (lvPairs A (w ++ [z]))) h hz o7 o8
  exact ⟨_, p7, s_seqN b1 (s_seqN b2 (s_seqN b3 b4))⟩
theorem s_asg3 {ρ ρ1 ρ2 ρ3 : Fr} {S1 S2 S3 S4 : Sto} {f : Ev} {g1 g2 g3 : Gf} {d e c : D} (h1 : f ρ S = .ok (.tup [d, e, c]) S1) (h2 : g1 d ρ S1 = .nx ρ1 S2) (h3 : g2 e ρ1 S2 = .nx ρ2 S3) (h4 : g3 c ρ2 S3 = .nx ρ3 S4) : sAsg (gfTup [g1, g2, g3]) f ρ S = .nx ρ3 S4 := by
  unfold sAsg
  rw [h1]
  show (match gfTup [g1, g2, g3] (.tup [d, e, c]) ρ S1 with
    | .nx ρ1 S2 => Fl.nx ρ1 S2
    | .ex x ρ1 S2 => .ex x ρ1 S2
    | _ => .bad) = _
  have : gfTup [g1, g2, g3] (.tup [d, e, c]) ρ S1 = .nx ρ3 S4 := by
    unfold gfTup
    simp only [List.length_cons, List.length_nil, if_true, gfs, h2, h3, h4]
  rw [this]
def layD (A : Alph) (x : List Str) : D := .tup ((layersOf (lvPairs A x)).map fun l => wordD (sortS l))
theorem low_layD {A : Alph} {x : List Str} {n : Nat} : low n (layD A x) = true := lowL_map fun _ _ => low_word _ _
theorem x_nRep {ρ : Fr} {F : EvL} {g : Ev} {xs : List D} {d : D} {S1 S2 S3 : Sto} {ob : Ob} (h1 : F ρ S = .ok xs S1) (h2 : g ρ S1 = .ok d S2) (h3 : repOb xs d S2 = .ok ob S3) : nRep F g ρ S = .ok ob S3 := by
  unfold nRep
  rw [h1]
  show (g ρ S1).bind _ = _
  rw [h2]
  exact h3
theorem rep_zero {A : Alph} (m1 : 1 ≤ A.many) (m5 : A.many ≤ 5) : repOb [.int 0] (.int (A.many : Int)) S = .ok (.lst (lvD A fun _ => 0)) S := by
  have fl : ∀ n : Nat, (List.replicate n [D.int 0]).flatten = (List.range n).map fun _ : Nat => D.int ((0 : Nat) : Int) := fun n => by
    induction n with
    | zero => rfl
    | succ n ih => rw [List.replicate_succ', List.flatten_append, ih, List.range_succ, List.map_append]; rfl
  have c : -(2 ^ 63) ≤ (A.many : Int) ∧ (A.many : Int) < 2 ^ 63 ∧ lenFits ([D.int 0].length * (A.many : Int).toNat) = true := ⟨by omega, by omega, fits_le (by rw [List.length_singleton, Int.toNat_natCast]; omega)⟩
  unfold repOb
  simp only [if_pos c]
  rw [Int.toNat_natCast, fl]
  rfl
end
end A1
end
section
set_option Elab.async false
set_option linter.all false
set_option maxRecDepth 100000
set_option maxHeartbeats 4000000
set_option autoImplicit false
/-! plain: the law's levels are the layers -/
namespace A1
open PySem PL
section
variable {S : Sto}
/-- a comprehension with a test over what the store holds, whose parts touch nothing -/
theorem lc_atP {α : Type} {T : Tg} {c : EvB} {f : Ev} {s : Src} {xs : List α} {e : α → D} {ρ : Fr} {p : α → Bool} {g : α → D} (hi : ∀ i, itemAt s i S = some ((xs.map e)[i]?))
    (h : ∀ x ∈ xs, ∃ ρ1, setT T (e x) ρ = some ρ1 ∧ c ρ1 S = .ok (p x) S ∧ f ρ1 S = .ok (g x) S) : ∀ (n i : Nat) (acc : List D), xs.length - i < n → acc.length ≤ i → xs.length ≤ sizeLine →
      runLC T c f s n i ρ acc S = .ok (acc ++ ((xs.drop i).filter p).map g) S := by
  intro n
  induction n with
  | zero => intro i acc h0; omega
  | succ n ih =>
    intro i acc h0 h1 h2
    unfold runLC
    rw [hi]
    by_cases hlt : i < xs.length
    · have e1 : (xs.map e)[i]? = some (e xs[i]) := by rw [List.getElem?_map, List.getElem?_eq_getElem hlt]; rfl
      have ed : xs.drop i = xs[i] :: xs.drop (i + 1) := List.drop_eq_getElem_cons hlt
      rw [e1]
      obtain ⟨ρ1, e1, e2, e3⟩ := h xs[i] (List.getElem_mem hlt)
      simp only [e1, e2]
      cases hp : p xs[i] with
      | true =>
        simp only [e3]
        have hl : lenFits (acc.length + 1) = true := by unfold lenFits; exact decide_eq_true (by omega)
        rw [if_pos hl, ih (i + 1) _ (by omega) (by simp; omega) h2, ed, List.filter_cons_of_pos hp, List.map_cons, List.append_assoc]
        rfl
      | false =>
        dsimp only
        rw [ih (i + 1) _ (by omega) (by omega) h2, ed, List.filter_cons_of_neg (by rw [hp]; exact Bool.false_ne_true)]
    · have e1 : (xs.map e)[i]? = none := List.getElem?_eq_none (by simp; omega)
      rw [e1, List.drop_eq_nil_of_le (by omega)]
      simp
theorem lLC_atP {α : Type} {T : Tg} {it : EvS} {c : EvB} {f : Ev} {vs : List Nat} {s : Src} {xs : List α} {e : α → D} {ρ : Fr} (p : α → Bool) (g : α → D) (hit : it ρ S = .ok s S) (hi : ∀ i, itemAt s i S = some ((xs.map e)[i]?)) (hf : xs.length < srcFuel s) (hl : xs.length ≤ 10000)
    (h : ∀ x ∈ xs, ∃ ρ1, setT T (e x) (wipeR ρ vs) = some ρ1 ∧ c ρ1 S = .ok (p x) S ∧ f ρ1 S = .ok (g x) S) : lLC T it c f vs ρ S = .ok ((xs.filter p).map g) S := by
  unfold lLC
  rw [hit]
  show runLC T c f s (srcFuel s) 0 (wipeR ρ vs) [] S = _
  rw [lc_atP hi h (srcFuel s) 0 [] (by omega) (Nat.le_refl _) (Nat.le_trans hl (by decide))]
  simp
/-- where a process stands: the greatest level of its letters -/
theorem lvAll_at {A : Alph} {x : List Str} (j : Nat) : ∀ i, (∀ q ∈ lvPairs A (x.take i), (j : Int) ∈ plc A q.1 → q.2 ≤ lvAll A (fun _ => 0) (x.take i) j) ∧ (lvAll A (fun _ => 0) (x.take i) j = 0 ∨ ∃ q ∈ lvPairs A (x.take i), (j : Int) ∈ plc A q.1 ∧ q.2 = lvAll A (fun _ => 0) (x.take i) j)
  | 0 => ⟨fun q hq => by simp [lvPairs] at hq, .inl rfl⟩
  | i + 1 => by
    obtain ⟨a, b⟩ := lvAll_at (A := A) (x := x) j i
    cases hz : x[i]? with
    | none =>
      have : x.take (i + 1) = x.take i := by rw [List.take_succ, hz]; simp
      rw [this]; exact ⟨a, b⟩
    | some z =>
      have : x.take (i + 1) = x.take i ++ [z] := by rw [List.take_succ, hz]; rfl
      rw [this, pairs_snoc, lvAll_app]
      have up : lvAll A (lvAll A (fun _ => 0) (x.take i)) [z] j = if (j : Int) ∈ plc A z then lvl A (lvAll A (fun _ => 0) (x.take i)) z + 1 else lvAll A (fun _ => 0) (x.take i) j := rfl
      rw [up]
      by_cases c : (j : Int) ∈ plc A z
      · rw [if_pos c]
        have le : lvAll A (fun _ => 0) (x.take i) j ≤ lvl A (lvAll A (fun _ => 0) (x.take i)) z := le_sup (List.mem_map.mpr ⟨(j : Int), c, by rw [Int.toNat_natCast]⟩)
        refine ⟨fun q hq hj => ?_, .inr ⟨_, List.mem_append_right _ (List.mem_singleton.mpr rfl), c, rfl⟩⟩
        rcases List.mem_append.mp hq with k | k
        · have := a q k hj; omega
        · rw [List.mem_singleton.mp k]; exact Nat.le_refl _
      · rw [if_neg c]
        refine ⟨fun q hq hj => ?_, b.imp id fun ⟨q, h1, h2⟩ => ⟨q, List.mem_append_left _ h1, h2⟩⟩
        rcases List.mem_append.mp hq with k | k
        · exact a q k hj
        · rw [List.mem_singleton.mp k] at hj; exact absurd hj c
theorem lvl_share {A : Alph} (h : AlphOk A) {w : List Str} {z : Str} (hz : z ∈ letters A) :
    sup (((lvPairs A w).filter fun q => shareB (plc A q.1) (plc A z)).map (·.2)) = lvl A (lvAll A (fun _ => 0) w) z := by
  have at_ : ∀ j : Nat, _ := fun j => lvAll_at (A := A) (x := w) j w.length
  rw [List.take_length] at at_
  refine Nat.le_antisymm (sup_le.mpr fun n hn => ?_) (sup_le.mpr fun n hn => ?_)
  · obtain ⟨q, hq, rfl⟩ := List.mem_map.mp hn
    obtain ⟨h1, h2⟩ := List.mem_filter.mp hq
    obtain ⟨p, k1, k2⟩ := share_iff.mp h2
    obtain ⟨j, rfl⟩ := Int.eq_ofNat_of_zero_le (plc_in h hz p k2).1
    have := (at_ j).1 q h1 k1
    have le : lvAll A (fun _ => 0) w j ≤ lvl A (lvAll A (fun _ => 0) w) z := le_sup (List.mem_map.mpr ⟨(j : Int), k2, by rw [Int.toNat_natCast]⟩)
    omega
  · obtain ⟨p, hp, rfl⟩ := List.mem_map.mp hn
    obtain ⟨j, rfl⟩ := Int.eq_ofNat_of_zero_le (plc_in h hz p hp).1
    rw [Int.toNat_natCast]
    rcases (at_ j).2 with e | ⟨q, h1, h2, e⟩
    · rw [e]; exact Nat.zero_le _
    · rw [← e]
      exact le_sup (List.mem_map.mpr ⟨q, List.mem_filter.mpr ⟨h1, share_iff.mpr ⟨_, h2, hp⟩⟩, rfl⟩)
abbrev lvs (A : Alph) (w : List Str) : List Nat := levelsF A (fun _ => 0) w
theorem pairs_range {A : Alph} {w : List Str} : lvPairs A w = (List.range w.length).map fun k => (w.getD k "", (lvs A w).getD k 0) := by
  refine List.ext_getElem? fun k => ?_
  unfold lvPairs
  have l : (lvs A w).length = w.length := levelsF_len
  by_cases hk : k < w.length
  · rw [List.getElem?_map, List.getElem?_range hk, (List.getElem?_zip_eq_some (z := (w[k], (lvs A w)[k]'(by omega)))).mpr ⟨List.getElem?_eq_getElem hk, List.getElem?_eq_getElem (show k < (lvs A w).length by omega)⟩, Option.map_some, List.getD_eq_getElem?_getD, List.getD_eq_getElem?_getD, List.getElem?_eq_getElem hk, List.getElem?_eq_getElem (show k < (lvs A w).length by omega)]
    rfl
  · rw [List.getElem?_eq_none (by rw [List.length_zip]; omega), List.getElem?_eq_none (by rw [List.length_map, List.length_range]; omega)]
def intsN (l : List Nat) : List D := l.map fun (n : Nat) => D.int (n : Int)
abbrev lvX (S : Sto) (A : Alph) (w : List Str) (fd : List D) : Sto := S ++ [.lst (intsN (lvs A w)), .lst fd]
abbrev lvF (A : Alph) (x : List Str) (l : Nat) (o5 o6 o7 o8 o9 : Option D) : Fr := [some A.d, some (wordD x), some (.dct false (placesD A.rows)), some (.ref l), some (.ref (l + 1)), o5, o6, o7, o8, o9]
theorem add_lst {xs ys : List D} {v : D} (hl : xs.length + ys.length ≤ 10000) (hv : PL.listOf S v = some ys) : binD .Add (D.lst xs) v S = .ok (D.lst (xs ++ ys)) S := by
  have f : lenFits (xs.length + ys.length) = true := fits_le hl
  have e : PL.listOf S (D.lst xs) = some xs := rfl
  cases v <;> simp [binD, hv, e, f]
theorem max_zero {ρ : Fr} {f : Ev} {l : List Nat} {v : D} (hf : f ρ S = .ok v S) (hv : PL.listOf S v = some (intsN l)) (hl : l.length ≤ 1000) : eBf maxD (aCons (eBin .Add (eFixN (nLst (lLst (aCons (eC (.int 0)) aNil)))) f) aNil) ρ S = .ok (.int (sup l : Int)) S := by
  have e := max_lst (S := S) (l := 0 :: l) (by simp)
  have s0 : sup (0 :: l) = sup l := rfl
  rw [s0] at e
  exact x_bf (x_cons (x_binK (x_fix (x_nLst (x_lLst (x_cons x_c x_nil) (Nat.le_trans (show 1 ≤ 10000 by decide) (by decide))))) hf (add_lst (by unfold intsN; rw [List.length_map, List.length_singleton]; omega) hv)) x_nil) e
theorem word_ix {x : List Str} {k : Nat} (hk : k < x.length) : ixD (wordD x) (.int (k : Int)) S = .ok (.str (x.getD k "")) S := ix_nat (xs := x.map D.str) rfl (by rw [List.getElem?_map, List.getD_eq_getElem?_getD, List.getElem?_eq_getElem hk]; rfl)
abbrev lvB : St' := sSeq (sSet (.nm 7) (eFixN (nLst (lLC (.nm 9) (iRange1 (eVar 5)) (bVal (eCallD M.f_law_meet [] (aCons (eIx (eVar 2) (eIx (eVar 1) (eVar 9))) (aCons (eIx (eVar 2) (eVar 6)) aNil)))) (eIx (eVar 3) (eVar 9)) [9])))) (sExpr (eMeth [("list", appendD)] (eVar 3) (aCons (eBin .Add (eC (.int 1)) (eBf maxD (aCons (eBin .Add (eFixN (nLst (lLst (aCons (eC (.int 0)) aNil)))) (eVar 7)) aNil))) aNil)))
theorem lv_turn {A : Alph} (w : WF S) (h : AlphOk A) {x : List Str} (hx : IsWord A x) {i : Nat} {z : Str} (hz : x[i]? = some z) (o7 o8 o9 : Option D) :
    ∃ p7 p9, lvB (lvF A x S.length (some (.int (i : Int))) (some (.str z)) o7 o8 o9) (lvX S A (x.take i) []) = .nx (lvF A x S.length (some (.int (i : Int))) (some (.str z)) p7 o8 p9) (lvX S A (x.take (i + 1)) []) := by
  have lx := hx.1
  have hi := (List.getElem?_eq_some_iff.mp hz).1
  have zl := hx.2 z (List.mem_of_getElem? hz)
  have lt : (x.take i).length = i := by rw [List.length_take]; omega
  have ll : (lvs A (x.take i)).length = i := by rw [levelsF_len, lt]
  have wf : WF (lvX S A (x.take i) []) := WF.app w fun ob ho => by
    simp only [List.mem_cons, List.not_mem_nil, or_false] at ho
    rcases ho with rfl | rfl
    · exact lowL_map fun _ _ => rfl
    · rfl
  let p : Nat → Bool := fun k => shareB (plc A ((x.take i).getD k "")) (plc A z)
  let g : Nat → Nat := fun k => (lvs A (x.take i)).getD k 0
  have lc : lLC (.nm 9) (iRange1 (eVar 5)) (bVal (eCallD M.f_law_meet [] (aCons (eIx (eVar 2) (eIx (eVar 1) (eVar 9))) (aCons (eIx (eVar 2) (eVar 6)) aNil)))) (eIx (eVar 3) (eVar 9)) [9] (lvF A x S.length (some (.int (i : Int))) (some (.str z)) o7 o8 o9) (lvX S A (x.take i) []) = .ok (((List.range i).filter p).map fun k => D.int (g k : Int)) (lvX S A (x.take i) []) := by
    refine lLC_map (s := .one (.fix (rangeD 0 i))) (e := fun (k : Nat) => D.int (0 + (k : Int))) p (fun k => D.int (g k : Int)) (i_range (x_var rfl) (range1_ok (by omega))) rfl (by rw [List.length_range]; omega) fun k hk => ?_
    have hk := List.mem_range.mp hk
    have ek : (x.take i).getD k "" = x.getD k "" := by rw [List.getD_eq_getElem?_getD, List.getD_eq_getElem?_getD, List.getElem?_take_of_lt hk]
    have yl : x.getD k "" ∈ letters A := hx.2 _ (by rw [List.getD_eq_getElem?_getD, List.getElem?_eq_getElem (show k < x.length by omega)]; exact List.getElem_mem _)
    refine ⟨lvF A x S.length (some (.int (i : Int))) (some (.str z)) o7 o8 (some (.int (k : Int))), by rw [Int.zero_add]; rfl, ?_, fun _ => ?_⟩
    · show _ = Res.ok (shareB (plc A ((x.take i).getD k "")) (plc A z)) _
      rw [ek]
      exact y_val (x_call (x_cons (x_ixK (x_var rfl) (x_ixK (x_var rfl) (x_var rfl) (word_ix (by omega))) (place_plc h yl)) (x_cons (x_ixK (x_var rfl) (x_var rfl) (place_plc h zl)) x_nil)) (meet_ok wf (by have := plc_len h yl; omega)))
    · refine x_ixK (x_var rfl) (x_var rfl) (ix_ref gp0 ?_)
      unfold intsN
      rw [List.getElem?_map, List.getElem?_eq_getElem (show k < (lvs A (x.take i)).length by omega)]
      show some (D.int (((lvs A (x.take i))[k]'_ : Nat) : Int)) = some (D.int (((lvs A (x.take i)).getD k 0 : Nat) : Int))
      rw [List.getD_eq_getElem?_getD, List.getElem?_eq_getElem (show k < (lvs A (x.take i)).length by omega)]
      rfl
  have sp : sup (((List.range i).filter p).map g) = lvl A (lvAll A (fun _ => 0) (x.take i)) z := by
    rw [← lvl_share h zl, pairs_range, lt, List.filter_map, List.map_map]
    rfl
  have mx := max_zero (S := lvX S A (x.take i) []) (ρ := lvF A x S.length (some (.int (i : Int))) (some (.str z)) (some (.lst (((List.range i).filter p).map fun k => D.int (g k : Int)))) o8 o9) (f := eVar 7) (l := ((List.range i).filter p).map g) (v := .lst (((List.range i).filter p).map fun k => D.int (g k : Int))) (x_var rfl) (by unfold intsN; rw [List.map_map]; rfl) (by
    rw [List.length_map]
    have := List.length_filter_le p (List.range i)
    rw [List.length_range] at this
    omega)
  rw [sp] at mx
  refine ⟨_, o9, s_seqN (s_set (x_fix (x_nLst lc))) (s_expr (d := .non) (x_meth (x_var rfl) (ty_refL gp0) rfl (x_cons (x_binK x_c mx add_ok) x_nil) ?_))⟩
  refine (app_at gp0 (by unfold intsN; rw [List.length_map, ll]; omega)).trans ?_
  rw [sp0]
  show _ = Res.ok D.non (S ++ [.lst (intsN (lvs A (x.take (i + 1)))), .lst []])
  have e1 : intsN (lvs A (x.take (i + 1))) = intsN (lvs A (x.take i)) ++ [.int (1 + (lvl A (lvAll A (fun _ => 0) (x.take i)) z : Int))] := by
    have : x.take (i + 1) = x.take i ++ [z] := by rw [List.take_succ, hz]; rfl
    unfold intsN
    rw [this, show lvs A (x.take i ++ [z]) = lvs A (x.take i) ++ levelsF A (lvAll A (fun _ => 0) (x.take i)) [z] from levelsF_app, List.map_append]
    show _ ++ [D.int ((lvl A (lvAll A (fun _ => 0) (x.take i)) z + 1 : Nat) : Int)] = _
    rw [show ((lvl A (lvAll A (fun _ => 0) (x.take i)) z + 1 : Nat) : Int) = 1 + (lvl A (lvAll A (fun _ => 0) (x.take i)) z : Int) by omega]
  rw [e1]
end
end A1
end
section
set_option Elab.async false
set_option linter.all false
set_option maxRecDepth 100000
set_option maxHeartbeats 4000000
set_option autoImplicit false
/-! plain: what a law's end asks -/
namespace A1
open PySem PL
section
variable {S : Sto}
theorem y_orF {ρ : Fr} {S1 : Sto} {A B : EvB} {r : Res Bool} (h : A ρ S = .ok false S1) (hb : B ρ S1 = r) : bOr A B ρ S = r := by
  unfold bOr
  simp only [h, Res.bind, Bool.false_eq_true, if_false]
  exact hb
theorem isnot_f : cmpR .IsNot (.bl false) (.bl false) S = .ok false S := rfl
theorem isnot_t : cmpR .IsNot (.bl true) (.bl true) S = .ok false S := rfl
theorem ne_strF {x : Str} : cmpR .NotEq (.str x) (.str x) S = .ok false S := by rw [ne_str, decide_eq_true rfl]; rfl
theorem IsWord.nil {A : Alph} : IsWord A [] := ⟨by simp, by simp⟩
theorem Stm.last {a b : Int} (h : StmB 0 a b 0) : Stm S.length 0 (S ++ [stm a b 0]) := ⟨a, b, 0, at_app, h⟩
theorem wf_stm (w : WF S) (a b : Int) : WF (S ++ [stm a b 0]) := w.push rfl
/-! the written alphabet -/
def chkA : Alph := ⟨3, [("a", [0, 1]), ("b", [1, 2]), ("c", [0]), ("d", [2])]⟩
theorem chkA_ok : AlphOk chkA :=
  ⟨by decide, by decide, by decide, by decide, by
    intro r hr
    simp only [chkA, List.mem_cons, List.not_mem_nil, or_false] at hr
    rcases hr with rfl | rfl | rfl | rfl <;> exact ⟨by decide, by decide, by decide⟩, by
    intro r hr
    simp only [chkA, List.mem_cons, List.not_mem_nil, or_false] at hr
    rcases hr with rfl | rfl | rfl | rfl <;> exact ⟨by decide, by decide, by decide, by decide⟩, by
    simp only [chkA, List.map_cons, List.map_nil]
    decide⟩
def chkW : List Str := ["c", "d", "a", "b", "d"]
theorem chkW_ok : IsWord chkA chkW := ⟨by decide, by decide⟩
theorem cells (ns : List Int) (n : Int) (hn : 1 ≤ n) (hm : n ≤ 1000) {ρ : Fr} (h0 : ρ[0]? = some (some (.scr (ns.map D.int)))) : ∃ c : Nat, c ≤ 1000 ∧ iRange1 (eBf maxD (aCons (eC (.int 1)) (aCons (eBf minD (aCons (eC (.int n)) (aCons (eBf lenD (aCons (eVar 0) aNil)) aNil))) aNil))) ρ S = .ok (.one (.fix (rangeD 0 c))) S := by
  obtain ⟨c, hc, e⟩ : ∃ c : Nat, c ≤ 1000 ∧ maxD [.int 1, .int (if ((ns.length : Int)) < n then (ns.length : Int) else n)] S = .ok (.int (c : Int)) S := by
    refine ⟨(if (if ((ns.length : Int)) < n then (ns.length : Int) else n) > 1 then (if ((ns.length : Int)) < n then (ns.length : Int) else n) else 1).toNat, by split <;> split <;> omega, ?_⟩
    show Res.ok (D.int (if (if ((ns.length : Int)) < n then (ns.length : Int) else n) > 1 then (if ((ns.length : Int)) < n then (ns.length : Int) else n) else 1)) S = _
    congr 2
    split <;> split <;> omega
  have l : lenD [.scr (ns.map D.int)] S = .ok (.int ns.length) S := by rw [len_scr, List.length_map]
  refine ⟨c, hc, i_range (x_bf (x_cons x_c (x_cons (x_bf (x_cons x_c (x_cons (x_bf (x_cons (x_var h0) x_nil) l) x_nil)) rfl) x_nil)) e) (range1_ok (by omega))⟩
theorem cutD_map {α β : Type} (f : α → β) (xs : List α) (lo hi : Option Int) : cutD (xs.map f) lo hi = (cutD xs lo hi).map f := by
  unfold cutD
  rw [List.length_map, List.map_take, List.map_drop]
theorem cut_word {A : Alph} {x : List Str} (hx : IsWord A x) (lo hi : Option Int) : IsWord A (cutD x lo hi) := by
  refine ⟨?_, fun z hz => hx.2 z (List.mem_of_mem_drop (List.mem_of_mem_take hz))⟩
  have := hx.1
  unfold cutD
  rw [List.length_take, List.length_drop]
  omega
theorem sl_word {x : List Str} {lo hi : Option Int} : slD (wordD x) lo hi S = .ok (wordD (cutD x lo hi)) S := by
  show Res.ok (D.tup (cutD (x.map D.str) lo hi)) S = _
  rw [cutD_map]; rfl
end
end A1
end
section
set_option Elab.async false
set_option linter.all false
set_option maxRecDepth 100000
set_option maxHeartbeats 4000000
set_option autoImplicit false
/-! plain: pasts, views, counts -/
namespace A1
open PySem PL
section
variable {A : Alph} {x : List Str}
/-- process r takes part in event k -/
def ev (A : Alph) (x : List Str) (r k : Nat) : Bool := decide ((r : Int) ∈ plc A (x.getD k ""))
def shr (A : Alph) (x : List Str) (k i : Nat) : Bool := shareB (plc A (x.getD k "")) (plc A (x.getD i ""))
def pastsF (A : Alph) (x : List Str) : Nat → List (Nat → Bool)
  | 0 => []
  | i + 1 => pastsF A x i ++ [fun j => j == i || (List.range i).any fun k => shr A x k i && (pastsF A x i).getD k (fun _ => false) j]
/-- event j is in the past of event i -/
def pst (A : Alph) (x : List Str) (i : Nat) : Nat → Bool := (pastsF A x (i + 1)).getD i fun _ => false
theorem pastsF_len : ∀ n, (pastsF A x n).length = n
  | 0 => rfl
  | n + 1 => by rw [pastsF, List.length_append, pastsF_len n]; rfl
theorem pastsF_at {i : Nat} : ∀ {n : Nat}, i < n → (pastsF A x n).getD i (fun _ => false) = pst A x i
  | n + 1, h => by
    by_cases e : i = n
    · subst e; rfl
    · have hi : i < n := by omega
      rw [pastsF, List.getD_eq_getElem?_getD, List.getElem?_append_left (by rw [pastsF_len]; exact hi), ← List.getD_eq_getElem?_getD]
      exact pastsF_at hi
theorem pst_iff {i j : Nat} : pst A x i j = true ↔ j = i ∨ ∃ k, k < i ∧ shr A x k i = true ∧ pst A x k j = true := by
  have e : pst A x i j = (j == i || (List.range i).any fun k => shr A x k i && (pastsF A x i).getD k (fun _ => false) j) := by
    unfold pst
    rw [pastsF, List.getD_eq_getElem?_getD, List.getElem?_append_right (by rw [pastsF_len]; exact Nat.le_refl _), pastsF_len, Nat.sub_self]; rfl
  rw [e, Bool.or_eq_true, beq_iff_eq, List.any_eq_true]
  refine or_congr Iff.rfl ⟨fun ⟨k, hk, h⟩ => ?_, fun ⟨k, hk, h1, h2⟩ => ⟨k, List.mem_range.mpr hk, ?_⟩⟩
  · have hk := List.mem_range.mp hk
    rw [pastsF_at hk, Bool.and_eq_true] at h
    exact ⟨k, hk, h.1, h.2⟩
  · rw [pastsF_at hk, h1, h2]; rfl
theorem pst_refl {i : Nat} : pst A x i i = true := pst_iff.mpr (.inl rfl)
theorem pst_le : ∀ {i j : Nat}, pst A x i j = true → j ≤ i := by
  intro i
  induction i using Nat.strongRecOn with
  | ind i ih =>
    intro j h
    rcases pst_iff.mp h with e | ⟨k, hk, _, h2⟩
    · omega
    · have := ih k hk h2; omega
theorem pst_shr {i j : Nat} (h : j < i) (s : shr A x j i = true) : pst A x i j = true := pst_iff.mpr (.inr ⟨j, h, s, pst_refl⟩)
theorem pst_trans {i : Nat} : ∀ {j k : Nat}, pst A x i j = true → pst A x j k = true → pst A x i k = true := by
  induction i using Nat.strongRecOn with
  | ind i ih =>
    intro j k h1 h2
    rcases pst_iff.mp h1 with e | ⟨l, hl, s, h3⟩
    · rw [← e]; exact h2
    · exact pst_iff.mpr (.inr ⟨l, hl, s, ih l hl h3 h2⟩)
theorem shr_of {r i j : Nat} (h1 : ev A x r i = true) (h2 : ev A x r j = true) : shr A x i j = true := share_iff.mpr ⟨(r : Int), of_decide_eq_true h1, of_decide_eq_true h2⟩
/-- with an event, all earlier ones of each of its processes -/
theorem pst_line {r i j k : Nat} (h : pst A x i j = true) (h1 : ev A x r j = true) (h2 : ev A x r k = true) (hk : k ≤ j) : pst A x i k = true := by
  by_cases e : k = j
  · rw [e]; exact h
  · exact pst_trans h (pst_shr (by omega) (shr_of h2 h1))
/-- events of r in S -/
def evs (A : Alph) (x : List Str) (S : Nat → Bool) (r : Nat) : List Nat := (List.range x.length).filter fun k => S k && ev A x r k
def lastN (A : Alph) (x : List Str) (S : Nat → Bool) (r : Nat) : Option Nat := if evs A x S r = [] then none else some (sup (evs A x S r))
def ofL (A : Alph) (x : List Str) : Option Nat → Nat → Bool
  | some m => pst A x m
  | none => fun _ => false
def allE : Nat → Bool := fun _ => true
/-- what process q has seen -/
def vw (A : Alph) (x : List Str) (q : Nat) : Nat → Bool := ofL A x (lastN A x allE q)
theorem evs_mem {S : Nat → Bool} {r k : Nat} : k ∈ evs A x S r ↔ k < x.length ∧ S k = true ∧ ev A x r k = true := by
  unfold evs
  rw [List.mem_filter, List.mem_range, Bool.and_eq_true]
theorem sup_mem : ∀ {l : List Nat}, l ≠ [] → sup l ∈ l
  | [], h => absurd rfl h
  | [a], _ => by rw [sup_one]; simp
  | a :: b :: l, _ => by
    have := sup_mem (l := b :: l) (by simp)
    rw [show a :: b :: l = [a] ++ (b :: l) from rfl, sup_app, sup_one]
    by_cases c : a ≤ sup (b :: l)
    · rw [Nat.max_eq_right c]; exact List.mem_append_right _ this
    · rw [Nat.max_eq_left (by omega)]; simp
theorem lastN_some {S : Nat → Bool} {r m : Nat} (h : lastN A x S r = some m) : m < x.length ∧ S m = true ∧ ev A x r m = true ∧ ∀ k, k < x.length → S k = true → ev A x r k = true → k ≤ m := by
  unfold lastN at h
  split at h
  · cases h
  · rename_i hn
    obtain rfl := Option.some.inj h
    obtain ⟨a, b, c⟩ := evs_mem.mp (sup_mem hn)
    exact ⟨a, b, c, fun k k1 k2 k3 => le_sup (evs_mem.mpr ⟨k1, k2, k3⟩)⟩
theorem lastN_none {S : Nat → Bool} {r : Nat} (h : lastN A x S r = none) : ∀ k, k < x.length → S k = true → ev A x r k = false := by
  unfold lastN at h
  split at h
  · rename_i hn
    intro k k1 k2
    cases c : ev A x r k with
    | false => rfl
    | true =>
      have := evs_mem.mpr ⟨k1, k2, c⟩
      rw [hn] at this
      cases this
  · cases h
/-- a set that holds with an event all earlier ones of each of its processes -/
def Closed (A : Alph) (x : List Str) (S : Nat → Bool) : Prop := ∀ r k j, k < x.length → S k = true → ev A x r k = true → j ≤ k → ev A x r j = true → S j = true
theorem pst_closed {i : Nat} : Closed A x (pst A x i) := fun _ _ _ _ h1 h2 h3 h4 => pst_line h1 h2 h4 h3
theorem ofL_closed : ∀ {o : Option Nat}, Closed A x (ofL A x o)
  | some _ => pst_closed
  | none => fun _ _ _ _ h => by cases h
theorem vw_closed {q : Nat} : Closed A x (vw A x q) := ofL_closed
theorem filter_lt {α : Type} {p q : α → Bool} : ∀ {l : List α}, (∀ a ∈ l, p a = true → q a = true) → (∃ a ∈ l, q a = true ∧ p a = false) → (l.filter p).length < (l.filter q).length
  | [], _, ⟨_, h, _⟩ => by cases h
  | a :: l, h, ⟨b, hb, h1, h2⟩ => by
    have le : ∀ {l : List α}, (∀ a ∈ l, p a = true → q a = true) → (l.filter p).length ≤ (l.filter q).length := by
      intro l
      induction l with
      | nil => intro _; exact Nat.le_refl _
      | cons a l ih =>
        intro h
        have := ih fun a ha => h a (List.mem_cons_of_mem _ ha)
        cases hp : p a with
        | true => rw [List.filter_cons_of_pos hp, List.filter_cons_of_pos (h a (by simp) hp)]; simp; exact this
        | false =>
          rw [List.filter_cons_of_neg (by rw [hp]; exact Bool.false_ne_true)]
          cases hq : q a with
          | true => rw [List.filter_cons_of_pos hq]; simp; omega
          | false => rw [List.filter_cons_of_neg (by rw [hq]; exact Bool.false_ne_true)]; exact this
    have hl := le (l := l) fun a ha => h a (List.mem_cons_of_mem _ ha)
    rcases List.mem_cons.mp hb with e | e
    · subst e
      rw [List.filter_cons_of_neg (by rw [h2]; exact Bool.false_ne_true), List.filter_cons_of_pos h1]
      simp; omega
    · have := filter_lt (l := l) (fun a ha => h a (List.mem_cons_of_mem _ ha)) ⟨b, e, h1, h2⟩
      cases hp : p a with
      | true => rw [List.filter_cons_of_pos hp, List.filter_cons_of_pos (h a (by simp) hp)]; simp; exact this
      | false =>
        rw [List.filter_cons_of_neg (by rw [hp]; exact Bool.false_ne_true)]
        cases hq : q a with
        | true => rw [List.filter_cons_of_pos hq]; simp; omega
        | false => rw [List.filter_cons_of_neg (by rw [hq]; exact Bool.false_ne_true)]; exact this
/-- who has heard of more events of r has heard of all of them -/
theorem nested {S T : Nat → Bool} {r k : Nat} (hS : Closed A x S) (hT : Closed A x T) (h : (evs A x S r).length ≤ (evs A x T r).length) (hk : k < x.length) (h1 : S k = true) (h2 : ev A x r k = true) : T k = true := by
  cases c : T k with
  | true => rfl
  | false =>
    refine absurd h (Nat.not_le.mpr (filter_lt (fun a ha q => ?_) ⟨k, List.mem_range.mpr hk, by rw [h1, h2]; rfl, by rw [c]; rfl⟩))
    have ha := List.mem_range.mp ha
    rw [Bool.and_eq_true] at q ⊢
    obtain ⟨q1, q2⟩ := q
    refine ⟨?_, q2⟩
    by_cases e : k ≤ a
    · have := hT r a k ha q1 q2 e h2
      rw [c] at this; cases this
    · exact hS r k a hk h1 h2 (by omega) q2
end
end A1
end
section
set_option Elab.async false
set_option linter.all false
set_option maxRecDepth 100000
set_option maxHeartbeats 4000000
set_option autoImplicit false
/-! plain: one letter more; the news that processes carry when they meet -/
namespace A1
open PySem PL
section
variable {A : Alph} {w : List Str} {z : Str}
theorem get_old {k : Nat} (h : k < w.length) : (w ++ [z]).getD k "" = w.getD k "" := by
  rw [List.getD_eq_getElem?_getD, List.getD_eq_getElem?_getD, List.getElem?_append_left h]
theorem get_new : (w ++ [z]).getD w.length "" = z := by
  rw [List.getD_eq_getElem?_getD, List.getElem?_append_right (Nat.le_refl _), Nat.sub_self]; rfl
theorem ev_old {r k : Nat} (h : k < w.length) : ev A (w ++ [z]) r k = ev A w r k := by unfold ev; rw [get_old h]
theorem ev_new {r : Nat} : ev A (w ++ [z]) r w.length = decide ((r : Int) ∈ plc A z) := by unfold ev; rw [get_new]
theorem shr_old {i k : Nat} (h : k < w.length) (h2 : i < w.length) : shr A (w ++ [z]) k i = shr A w k i := by unfold shr; rw [get_old h, get_old h2]
theorem pst_old {i : Nat} : i < w.length → ∀ {j : Nat}, pst A (w ++ [z]) i j = pst A w i j := by
  induction i using Nat.strongRecOn with
  | ind i ih =>
    intro hi j
    rw [Bool.eq_iff_iff, pst_iff, pst_iff]
    refine or_congr Iff.rfl ⟨fun ⟨k, h1, h2, h3⟩ => ⟨k, h1, ?_, ?_⟩, fun ⟨k, h1, h2, h3⟩ => ⟨k, h1, ?_, ?_⟩⟩
    · rw [shr_old (by omega) hi] at h2; exact h2
    · rw [ih k h1 (by omega)] at h3; exact h3
    · rw [shr_old (by omega) hi]; exact h2
    · rw [ih k h1 (by omega)]; exact h3
theorem pst_oldF {i : Nat} (h : i < w.length) : pst A (w ++ [z]) i = pst A w i := funext fun _ => pst_old h
theorem pst_far {x : List Str} {i j : Nat} (h : i < j) : pst A x i j = false := by
  cases c : pst A x i j with
  | false => rfl
  | true => have := pst_le c; omega
theorem evs_congr {x : List Str} {S T : Nat → Bool} {r : Nat} (h : ∀ k, k < x.length → ev A x r k = true → S k = T k) : evs A x S r = evs A x T r := by
  unfold evs
  refine List.filter_congr fun k hk => ?_
  have hk := List.mem_range.mp hk
  cases c : ev A x r k with
  | false => rw [Bool.and_false, Bool.and_false]
  | true => rw [h k hk c]
theorem evs_snoc {S : Nat → Bool} {r : Nat} : evs A (w ++ [z]) S r = evs A w S r ++ if S w.length = true ∧ (r : Int) ∈ plc A z then [w.length] else [] := by
  unfold evs
  rw [List.length_append, List.length_singleton, List.range_succ, List.filter_append]
  congr 1
  · refine List.filter_congr fun k hk => ?_
    rw [ev_old (List.mem_range.mp hk)]
  · rw [List.filter_cons, List.filter_nil, ev_new]
    by_cases c : S w.length = true ∧ (r : Int) ∈ plc A z
    · rw [if_pos c, c.1, decide_eq_true c.2]; rfl
    · rw [if_neg c]
      rw [if_neg fun q => c ?_]
      rw [Bool.and_eq_true] at q
      exact ⟨q.1, of_decide_eq_true q.2⟩
theorem lastN_evs {x y : List Str} {S T : Nat → Bool} {r : Nat} (h : evs A x S r = evs A y T r) : lastN A x S r = lastN A y T r := by unfold lastN; rw [h]
theorem lastN_new {S : Nat → Bool} {r : Nat} (h : S w.length = true) (hr : (r : Int) ∈ plc A z) : lastN A (w ++ [z]) S r = some w.length := by
  have e : evs A (w ++ [z]) S r = evs A w S r ++ [w.length] := by rw [evs_snoc, if_pos ⟨h, hr⟩]
  unfold lastN
  rw [if_neg (by rw [e]; simp), e, sup_app, sup_one]
  have : sup (evs A w S r) ≤ w.length := sup_le.mpr fun k hk => Nat.le_of_lt (evs_mem.mp hk).1
  rw [Nat.max_eq_right this]
theorem ofL_old {o : Option Nat} (h : ∀ m, o = some m → m < w.length) : ofL A (w ++ [z]) o = ofL A w o := by
  cases o with
  | none => rfl
  | some m => exact pst_oldF (h m rfl)
theorem ofL_far {x : List Str} {o : Option Nat} {n : Nat} (h : ∀ m, o = some m → m < n) : ofL A x o n = false := by
  cases o with
  | none => rfl
  | some m => exact pst_far (h m rfl)
def cntL (A : Alph) (x : List Str) (S : Nat → Bool) : List Nat := (List.range A.many).map fun r => (evs A x S r).length
/-- counts of a set that the new letter is not in -/
theorem cnt_old {S : Nat → Bool} (h : S w.length = false) : cntL A (w ++ [z]) S = cntL A w S := by
  unfold cntL
  refine List.map_congr_left fun r _ => ?_
  rw [evs_snoc, if_neg (fun q => by rw [h] at q; exact Bool.false_ne_true q.1), List.append_nil]
theorem cnt_ofL {o : Option Nat} (h : ∀ m, o = some m → m < w.length) : cntL A (w ++ [z]) (ofL A (w ++ [z]) o) = cntL A w (ofL A w o) := by
  rw [ofL_old h, cnt_old (ofL_far h)]
abbrev Tab := List Nat × List (List Nat)
def tab (A : Alph) (x : List Str) (q : Nat) : Tab := (cntL A x (vw A x q), (List.range A.many).map fun r => cntL A x (ofL A x (lastN A x (vw A x q) r)))
theorem lastN_lt {x : List Str} {S : Nat → Bool} {r m : Nat} (h : lastN A x S r = some m) : m < x.length := (lastN_some h).1
theorem vw_old {q : Nat} (hq : (q : Int) ∉ plc A z) : vw A (w ++ [z]) q = vw A w q := by
  unfold vw
  have e : lastN A (w ++ [z]) allE q = lastN A w allE q := lastN_evs (by rw [evs_snoc, if_neg (fun c => hq c.2), List.append_nil])
  rw [e, ofL_old fun m h => lastN_lt h]
theorem vw_far {q : Nat} : vw A w q w.length = false := ofL_far fun _ h => lastN_lt h
theorem tab_old {q : Nat} (hq : (q : Int) ∉ plc A z) : tab A (w ++ [z]) q = tab A w q := by
  unfold tab
  rw [vw_old hq, cnt_old vw_far]
  congr 1
  refine List.map_congr_left fun r _ => ?_
  have e : lastN A (w ++ [z]) (vw A w q) r = lastN A w (vw A w q) r := lastN_evs (by rw [evs_snoc, if_neg (fun c => by rw [vw_far] at c; exact Bool.false_ne_true c.1), List.append_nil])
  rw [e]
  exact cnt_ofL fun m h => lastN_lt h
theorem vw_new {q : Nat} (hq : (q : Int) ∈ plc A z) : vw A (w ++ [z]) q = pst A (w ++ [z]) w.length := by
  unfold vw
  rw [lastN_new rfl hq]; rfl
/-- the past of the new event: what the processes that meet have seen -/
theorem new_past (h : AlphOk A) (hz : z ∈ letters A) {k : Nat} (hk : k < w.length) : pst A (w ++ [z]) w.length k = true ↔ ∃ q : Nat, (q : Int) ∈ plc A z ∧ vw A w q k = true := by
  rw [pst_iff]
  constructor
  · rintro (e | ⟨j, hj, s, p⟩)
    · omega
    · unfold shr at s
      rw [get_old hj, get_new] at s
      obtain ⟨q, q1, q2⟩ := share_iff.mp s
      obtain ⟨q, rfl⟩ := Int.eq_ofNat_of_zero_le (plc_in h hz q q2).1
      refine ⟨q, q2, ?_⟩
      rw [pst_old hj] at p
      have ej : ev A w q j = true := decide_eq_true q1
      unfold vw
      cases c : lastN A w allE q with
      | none => have := lastN_none c j hj rfl; rw [ej] at this; cases this
      | some m =>
        obtain ⟨m1, _, m2, m3⟩ := lastN_some c
        exact pst_trans (pst_line pst_refl m2 ej (m3 j hj rfl ej)) p
  · rintro ⟨q, hq, v⟩
    unfold vw at v
    cases c : lastN A w allE q with
    | none => rw [c] at v; cases v
    | some m =>
      rw [c] at v
      obtain ⟨m1, _, m2, _⟩ := lastN_some c
      refine .inr ⟨m, m1, ?_, by rw [pst_old m1]; exact v⟩
      unfold shr
      rw [get_old m1, get_new]
      exact share_iff.mpr ⟨(q : Int), of_decide_eq_true m2, hq⟩
/-- r's events in the new past: those that the best informed one has heard of -/
theorem new_evs (h : AlphOk A) (hz : z ∈ letters A) {r p : Nat} (hp : (p : Int) ∈ plc A z) (best : ∀ q : Nat, (q : Int) ∈ plc A z → (evs A w (vw A w q) r).length ≤ (evs A w (vw A w p) r).length) :
    evs A w (pst A (w ++ [z]) w.length) r = evs A w (vw A w p) r := evs_congr fun k hk hr => by
  rw [Bool.eq_iff_iff, new_past h hz hk]
  refine ⟨fun ⟨q, h1, h2⟩ => nested vw_closed vw_closed (best q h1) hk h2 hr, fun v => ⟨p, hp, v⟩⟩
theorem tab_new (h : AlphOk A) (hz : z ∈ letters A) {q : Nat} (hq : (q : Int) ∈ plc A z) (f : Nat → Nat) (hf : ∀ r, r < A.many → ((f r : Nat) : Int) ∈ plc A z ∧ ∀ q : Nat, (q : Int) ∈ plc A z → (evs A w (vw A w q) r).length ≤ (evs A w (vw A w (f r)) r).length) :
    tab A (w ++ [z]) q = ((List.range A.many).map fun (r : Nat) => (evs A w (vw A w (f r)) r).length + if (r : Int) ∈ plc A z then 1 else 0,
      (List.range A.many).map fun (r : Nat) => if (r : Int) ∈ plc A z then ((List.range A.many).map fun (r : Nat) => (evs A w (vw A w (f r)) r).length + if (r : Int) ∈ plc A z then 1 else 0) else cntL A w (ofL A w (lastN A w (vw A w (f r)) r))) := by
  have e0 : ∀ r, r < A.many → evs A (w ++ [z]) (pst A (w ++ [z]) w.length) r = evs A w (vw A w (f r)) r ++ if (r : Int) ∈ plc A z then [w.length] else [] := fun r hr => by
    rw [evs_snoc, new_evs h hz (hf r hr).1 (hf r hr).2]
    congr 1
    by_cases c : (r : Int) ∈ plc A z
    · rw [if_pos c, if_pos ⟨pst_refl, c⟩]
    · rw [if_neg c, if_neg fun k => c k.2]
  have e1 : cntL A (w ++ [z]) (pst A (w ++ [z]) w.length) = (List.range A.many).map fun (r : Nat) => (evs A w (vw A w (f r)) r).length + if (r : Int) ∈ plc A z then 1 else 0 := by
    unfold cntL
    refine List.map_congr_left fun r hr => ?_
    rw [e0 r (List.mem_range.mp hr), List.length_append]
    by_cases c : (r : Int) ∈ plc A z
    · rw [if_pos c, if_pos c]; rfl
    · rw [if_neg c, if_neg c]; rfl
  unfold tab
  rw [vw_new hq, e1]
  congr 1
  refine List.map_congr_left fun r hr => ?_
  have hr := List.mem_range.mp hr
  by_cases c : (r : Int) ∈ plc A z
  · rw [if_pos c, lastN_new pst_refl c]
    exact e1
  · rw [if_neg c]
    have e := e0 r hr
    rw [if_neg c, List.append_nil] at e
    rw [lastN_evs e]
    exact cnt_ofL fun m hm => lastN_lt hm
end
end A1
end
section
set_option Elab.async false
set_option linter.all false
set_option maxRecDepth 100000
set_option maxHeartbeats 4000000
set_option autoImplicit false
/-! plain: dicts whose keys are numbers and whose values are True -/
namespace A1
open PySem PL
section
variable {S : Sto}
def trueD (l : List Nat) : List (D × D) := l.map fun (k : Nat) => (D.int (k : Int), D.bl true)
theorem true_any {l : List Nat} {k : Nat} : ((trueD l).any fun kv => decide (keyOf kv.1 = some (.inl (k : Int)))) = decide (k ∈ l) := by
  induction l with
  | nil => simp [trueD]
  | cons a l ih =>
    show (decide (keyOf (D.int (a : Int)) = some (.inl (k : Int))) || (trueD l).any fun kv => decide (keyOf kv.1 = some (.inl (k : Int)))) = _
    rw [ih]
    have e : decide (keyOf (D.int (a : Int)) = some (.inl (k : Int))) = decide (k = a) := decide_eq_decide.mpr (by
      simp only [keyOf, Option.some.injEq, Sum.inl.injEq]
      omega)
    rw [e]
    by_cases c : k = a
    · subst c; simp
    · simp [c]
def addN (l : List Nat) (k : Nat) : List Nat := if k ∈ l then l else l ++ [k]
theorem addN_mem {l : List Nat} {k j : Nat} : j ∈ addN l k ↔ j ∈ l ∨ j = k := by
  unfold addN
  split
  · rename_i h
    exact ⟨.inl, fun q => q.elim id fun e => e ▸ h⟩
  · simp
theorem addN_nodup {l : List Nat} {k : Nat} (h : l.Nodup) : (addN l k).Nodup := by
  unfold addN
  split
  · exact h
  · rename_i hk
    rw [List.nodup_append]
    exact ⟨h, by simp, fun a ha b hb => by rw [List.mem_singleton.mp hb]; exact fun e => hk (e ▸ ha)⟩
theorem true_put {l : List Nat} {k : Nat} : putL (trueD l) (.inl (k : Int)) (.int (k : Int)) (.bl true) = trueD (addN l k) := by
  unfold putL addN
  rw [true_any]
  by_cases c : k ∈ l
  · rw [if_pos (decide_eq_true c), if_pos c]
    unfold trueD
    rw [List.map_map]
    refine List.map_congr_left fun a _ => ?_
    show (if _ then (D.int (a : Int), D.bl true) else (D.int (a : Int), D.bl true)) = _
    rw [ite_self]
  · rw [if_neg (by simp [c]), if_neg c]
    unfold trueD
    rw [List.map_append]; rfl
theorem put_true {p : Nat} {l : List Nat} {k : Nat} (h : S[p]? = some (.dct false (trueD l))) (hl : l.length < 10000) : putS (.ref p) (.int (k : Int)) (.bl true) S = some (S.set p (.dct false (trueD (addN l k)))) := by
  have hz : (trueD l).length < sizeLine := by unfold trueD; rw [List.length_map]; exact Nat.lt_of_lt_of_le hl (by decide)
  unfold putS
  simp only [h, putOb, keyOf, Option.bind_some, if_pos hz, true_put, Option.map_some]
theorem true_find {l : List Nat} {k : Nat} : (lookD (trueD l) (.inl (k : Int))).isSome = decide (k ∈ l) := by
  unfold lookD
  rw [Option.isSome_map, ← true_any, Bool.eq_iff_iff, List.find?_isSome, List.any_eq_true]
theorem seq_dct {p : Nat} {t : Bool} {kvs : List (D × D)} (h : S[p]? = some (.dct t kvs)) : seqOf S (.ref p) = none := by
  show PL.listOf S (.ref p) = none
  unfold PL.listOf
  simp only [h]
theorem dct_ref {p : Nat} {t : Bool} {kvs : List (D × D)} (h : S[p]? = some (.dct t kvs)) : dctOf S (.ref p) = some (t, kvs) := by
  unfold dctOf
  simp only [h]
theorem notin_true {p : Nat} {l : List Nat} {k : Nat} (h : S[p]? = some (.dct false (trueD l))) : cmpR .NotIn (.int (k : Int)) (.ref p) S = .ok (!decide (k ∈ l)) S := by
  have e : inS S (.int (k : Int)) (.ref p) = some (decide (k ∈ l)) := by
    have f := true_find (l := l) (k := k)
    unfold inS
    simp only [seq_dct h]
    unfold dgetS
    simp only [dct_ref h, keyOf]
    rw [← f]; rfl
  simp [cmpR, cmpS, e]
theorem true_ints : ∀ l : List Nat, intsOf ((trueD l).map (·.1)) = some (l.map fun (k : Nat) => (k : Int))
  | [] => rfl
  | k :: l => by
    have := true_ints l
    show intsOf (D.int (k : Int) :: (trueD l).map (·.1)) = _
    simp only [intsOf, this]; rfl
/-- the numbers below n of a kind, from a list of them -/
theorem srt_range {l : List Nat} {n : Nat} {P : Nat → Bool} (nd : l.Nodup) (h : ∀ k, k ∈ l ↔ k < n ∧ P k = true) : srtL (l.map fun (k : Nat) => (k : Int)) = ((List.range n).filter P).map fun (k : Nat) => (k : Int) := by
  refine le_unique ((srtL_perm _).trans (List.Perm.map _ ?_)) (srtL_pw _) ?_
  · refine (List.perm_ext_iff_of_nodup nd (List.Pairwise.filter _ List.nodup_range)).mpr fun k => ?_
    rw [h k, List.mem_filter, List.mem_range]
  · rw [List.pairwise_map]
    refine List.Pairwise.filter _ (List.pairwise_lt_range.imp fun h => ?_)
    omega
def natsD (l : List Nat) : D := .lst (l.map fun (k : Nat) => D.int (k : Int))
theorem sorted_true {p : Nat} {l : List Nat} {n : Nat} {P : Nat → Bool} (h : S[p]? = some (.dct false (trueD l))) (nd : l.Nodup) (hl : l.length < 64) (hm : ∀ k, k ∈ l ↔ k < n ∧ P k = true) :
    sortedN [.ref p] S = .ok (.lst (((List.range n).filter P).map fun (k : Nat) => D.int (k : Int))) S := by
  unfold sortedN
  simp only [seq_dct h, dct_ref h, true_ints, List.length_map, if_pos hl, srt_range nd hm, List.map_map]
  rfl
theorem nodup_len : ∀ {n : Nat} {l : List Nat}, l.Nodup → (∀ k ∈ l, k < n) → l.length ≤ n
  | 0, [], _, _ => Nat.le_refl _
  | 0, k :: l, _, h => absurd (h k (by simp)) (by omega)
  | n + 1, l, nd, h => by
    have := nodup_len (n := n) (l := l.filter fun k => k != n) (nd.filter _) fun k hk => by
      obtain ⟨a, b⟩ := List.mem_filter.mp hk
      have := h k a
      have : k ≠ n := by simpa using b
      omega
    have e : l.length ≤ (l.filter fun k => k != n).length + 1 := by
      clear this h
      induction l with
      | nil => simp
      | cons a l ih =>
        obtain ⟨n1, n2⟩ := List.nodup_cons.mp nd
        by_cases c : a = n
        · subst c
          have : (a :: l).filter (fun k => k != a) = l := by
            rw [List.filter_cons_of_neg (by simp)]
            exact List.filter_eq_self.mpr fun k hk => by
              have : k ≠ a := fun e => n1 (e ▸ hk)
              simpa using this
          rw [this]; simp
        · rw [List.filter_cons_of_pos (by simpa using c), List.length_cons, List.length_cons]
          have := ih n2
          omega
    omega
/-- for j in ms: d[j] = True -/
theorem add_loop {F : Option D → Fr} {i d p : Nat} {it : EvS} {ms l : List Nat} {X : Sto} {o : Option D} {n : Nat} (hi : ∀ o v, setT (.nm i) v (F o) = some (F (some v))) (gi : ∀ v, (F (some v))[i]? = some (some v)) (gd : ∀ o, (F o)[d]? = some (some (.ref p)))
    (hX : X[p]? = some (.dct false (trueD l))) (hit : it (F o) X = .ok (.one (.fix (ms.map fun (k : Nat) => D.int (k : Int)))) X) (nd : l.Nodup) (hl : ∀ k ∈ l, k < n) (hms : ∀ k ∈ ms, k < n) (hn : n < 5000) :
    ∃ o' l', sFor (.nm i) it (sPut (eVar d) (eVar i) (eC (.bl true))) (F o) X = .nx (F o') (X.set p (.dct false (trueD l'))) ∧ l'.Nodup ∧ ∀ k, k ∈ l' ↔ k ∈ l ∨ k ∈ ms := by
  have hp := (List.getElem?_eq_some_iff.mp hX).1
  refine sFor_inv (its := ms.map fun (k : Nat) => D.int (k : Int)) (s := .one (.fix (ms.map fun (k : Nat) => D.int (k : Int)))) (S0 := X)
    (fun j ρ Y => ∃ o' l', ρ = F o' ∧ Y = X.set p (.dct false (trueD l')) ∧ l'.Nodup ∧ ∀ k, k ∈ l' ↔ k ∈ l ∨ k ∈ ms.take j)
    (fun r => ∃ o' l', r = .nx (F o') (X.set p (.dct false (trueD l'))) ∧ l'.Nodup ∧ ∀ k, k ∈ l' ↔ k ∈ l ∨ k ∈ ms) hit rfl ⟨o, l, rfl, ?_, nd, by simp⟩ ?_ ?_
  · refine List.ext_getElem? fun j => ?_
    rw [List.getElem?_set]
    by_cases e : p = j
    · subst e; rw [if_pos rfl, if_pos hp]; exact hX
    · rw [if_neg e]
  · rintro j v ρ Y hd ⟨o', l', rfl, rfl, nd', hm⟩
    rw [List.getElem?_map] at hd
    cases hq : ms[j]? with
    | none => rw [hq] at hd; cases hd
    | some k =>
      rw [hq] at hd
      obtain rfl := Option.some.inj hd
      have gp : (X.set p (.dct false (trueD l')))[p]? = some (.dct false (trueD l')) := by rw [List.getElem?_set, if_pos rfl, if_pos hp]
      have len : l'.length ≤ n := nodup_len nd' fun a ha => by
        rcases (hm a).mp ha with q | q
        · exact hl a q
        · exact hms a (List.mem_of_mem_take q)
      have st := s_put (ρ := F (some (.int (k : Int)))) (S := X.set p (.dct false (trueD l'))) (fo := eVar d) (fi := eVar i) (fv := eC (.bl true)) x_c (x_var (gd _)) (x_var (gi _)) (put_true gp (by omega))
      refine ⟨F (some (.int (k : Int))), hi _ _, ?_⟩
      rw [st]
      refine ⟨_, addN l' k, rfl, ?_, addN_nodup nd', fun a => ?_⟩
      · rw [List.set_set]
      · rw [addN_mem, hm a, List.take_succ, hq]
        simp [or_assoc]
  · rintro ρ Y ⟨o', l', rfl, rfl, nd', hm⟩
    rw [List.length_map, List.take_length] at hm
    exact ⟨o', l', rfl, nd', hm⟩
end
end A1
end
section
set_option Elab.async false
set_option linter.all false
set_option maxRecDepth 100000
set_option maxHeartbeats 4000000
set_option autoImplicit false
/-! plain: the law finds the pasts -/
namespace A1
open PySem PL
section
variable {S : Sto}
theorem y_and {ρ : Fr} {S1 : Sto} {A B : EvB} {a b : Bool} (h : A ρ S = .ok a S1) (hb : B ρ S1 = .ok b S1) : bAnd A B ρ S = .ok (a && b) S1 := by
  unfold bAnd
  rw [h]
  cases a with
  | true => simp only [Res.bind, if_true, hb, Bool.true_and]
  | false => simp only [Res.bind, Bool.false_eq_true, if_false, Bool.false_and]
theorem i_range3 {f g h : Ev} {ρ : Fr} {S1 S2 S3 S4 : Sto} {d e c : D} {s : Src} (h1 : f ρ S = .ok d S1) (h2 : g ρ S1 = .ok e S2) (h3 : h ρ S2 = .ok c S3) (h4 : range3 d e c S3 = .ok s S4) : iRange3 f g h ρ S = .ok s S4 := by
  unfold iRange3; rw [h1]
  show (g ρ S1).bind _ = _
  rw [h2]
  show (h ρ S2).bind _ = _
  rw [h3]; exact h4
theorem range3_ok {i : Nat} (h : i ≤ 1000) : range3 (.int ((i : Int) - 1)) (.int (-1)) (.int (-1)) S = .ok (.one (.fix (downD ((i : Int) - 1) i))) S := by
  have c : (-1 : Int) = -1 ∧ small62 ((i : Int) - 1) = true ∧ small62 (-1) = true := ⟨rfl, by unfold small62; exact decide_eq_true ⟨by omega, by omega⟩, by decide⟩
  show (if (-1 : Int) = -1 ∧ small62 ((i : Int) - 1) = true ∧ small62 (-1) = true then Res.ok (Src.one (.fix (downD ((i : Int) - 1) ((i : Int) - 1 - -1).toNat))) S else .bad) = _
  rw [if_pos c, show ((i : Int) - 1 - -1).toNat = i by omega]
theorem low_true {l : List Nat} {n : Nat} : lowOb n (.dct false (trueD l)) = true := by
  show lowK n (trueD l) = true
  unfold trueD
  induction l with
  | nil => rfl
  | cons k l ih => simp [lowK, low]; exact ih
def pastL (A : Alph) (x : List Str) (i : Nat) : List Nat := (List.range x.length).filter (pst A x i)
theorem low_nats {l : List Nat} {n : Nat} : low n (natsD l) = true := lowL_map fun _ _ => rfl
def pastsD (A : Alph) (x : List Str) (i : Nat) : List D := (List.range i).map fun k => natsD (pastL A x k)
abbrev ptF (A : Alph) (x : List Str) (l : Nat) (o4 o5 o6 o7 o8 : Option D) : Fr := [some A.d, some (wordD x), some (.dct false (placesD A.rows)), some (.ref l), o4, o5, o6, o7, o8]
abbrev ptI : St' := sIf (bAnd (bCmp .NotIn (eVar 7) (eVar 6)) (bVal (eCallD M.f_law_meet [] (aCons (eIx (eVar 2) (eIx (eVar 1) (eVar 7))) (aCons (eIx (eVar 2) (eVar 5)) aNil))))) (sFor (.nm 8) (iOf (eIx (eVar 3) (eVar 7))) (sPut (eVar 6) (eVar 8) (eC (.bl true)))) sNext
abbrev ptB : St' := sSeq (sSet (.nm 6) (eThaw (nDisp1 (eVar 4) (eC (.bl true))))) (sSeq (sFor (.nm 7) (iRange3 (eBin .Sub (eVar 4) (eC (.int 1))) (eUn .USub (eC (.int 1))) (eUn .USub (eC (.int 1)))) ptI) (sExpr (eMeth [("list", appendD)] (eVar 3) (aCons (eFixN (nBf sortedN (aCons (eVar 6) aNil))) aNil))))
/-- one earlier event -/
theorem pt_inner {A : Alph} (h : AlphOk A) {x : List Str} (hx : IsWord A x) {i e : Nat} (hi : i < x.length) (he : e < i) {B : Sto} (wB : WF B) (gB : B[S.length]? = some (.lst (pastsD A x i))) {l : List Nat} (nd : l.Nodup) (hl : ∀ k ∈ l, k < x.length) (o8 : Option D) :
    ∃ p8 l', ptI (ptF A x S.length (some (.int (i : Int))) (some (.str (x.getD i ""))) (some (.ref B.length)) (some (.int (e : Int))) o8) (B ++ [.dct false (trueD l)]) = .nx (ptF A x S.length (some (.int (i : Int))) (some (.str (x.getD i ""))) (some (.ref B.length)) (some (.int (e : Int))) p8) (B ++ [.dct false (trueD l')]) ∧ l'.Nodup ∧ (∀ k ∈ l', k < x.length) ∧
      ∀ k, k ∈ l' ↔ k ∈ l ∨ (e ∉ l ∧ shr A x e i = true ∧ pst A x e k = true) := by
  have lx := hx.1
  have gl : S.length < B.length := (List.getElem?_eq_some_iff.mp gB).1
  have yl : ∀ k, k < x.length → x.getD k "" ∈ letters A := fun k hk => hx.2 _ (by rw [List.getD_eq_getElem?_getD, List.getElem?_eq_getElem hk]; exact List.getElem_mem _)
  have wX : WF (B ++ [.dct false (trueD l)]) := WF.app wB fun ob ho => by rw [List.mem_singleton.mp ho]; exact low_true
  have gp : (B ++ [Ob.dct false (trueD l)])[B.length]? = some (.dct false (trueD l)) := gp0
  have gf : (B ++ [Ob.dct false (trueD l)])[S.length]? = some (.lst (pastsD A x i)) := by rw [List.getElem?_append_left gl]; exact gB
  have test : bAnd (bCmp .NotIn (eVar 7) (eVar 6)) (bVal (eCallD M.f_law_meet [] (aCons (eIx (eVar 2) (eIx (eVar 1) (eVar 7))) (aCons (eIx (eVar 2) (eVar 5)) aNil)))) (ptF A x S.length (some (.int (i : Int))) (some (.str (x.getD i ""))) (some (.ref B.length)) (some (.int (e : Int))) o8) (B ++ [.dct false (trueD l)]) = .ok (!decide (e ∈ l) && shr A x e i) (B ++ [.dct false (trueD l)]) := by
    refine y_and (y_cmpK (x_var rfl) (x_var rfl) (notin_true gp)) (y_val (x_call (x_cons (x_ixK (x_var rfl) (x_ixK (x_var rfl) (x_var rfl) (word_ix (by omega))) (place_plc h (yl e (by omega)))) (x_cons (x_ixK (x_var rfl) (x_var rfl) (place_plc h (yl i hi))) x_nil)) (meet_ok wX (by have := plc_len h (yl e (by omega)); omega))))
  cases c : (!decide (e ∈ l) && shr A x e i) with
  | false =>
    rw [c] at test
    refine ⟨o8, l, s_ifF test rfl, nd, hl, fun k => ⟨.inl, fun q => q.elim id fun ⟨a, b, _⟩ => ?_⟩⟩
    rw [b, decide_eq_false a] at c
    cases c
  | true =>
    rw [c] at test
    rw [Bool.and_eq_true] at c
    have c1 : e ∉ l := by simpa using c.1
    obtain ⟨p8, l', e1, n1, m1⟩ := add_loop (F := fun o => ptF A x S.length (some (.int (i : Int))) (some (.str (x.getD i ""))) (some (.ref B.length)) (some (.int (e : Int))) o) (i := 8) (d := 6) (p := B.length) (it := iOf (eIx (eVar 3) (eVar 7))) (ms := pastL A x e) (l := l) (X := B ++ [.dct false (trueD l)]) (o := o8) (n := x.length) (fun _ _ => rfl) (fun _ => rfl) (fun _ => rfl) gp
      (i_of (x_ixK (x_var rfl) (x_var rfl) (ix_ref gf (by unfold pastsD; rw [List.getElem?_map, List.getElem?_range he]; rfl))) rfl) nd hl (fun k hk => List.mem_range.mp (List.mem_filter.mp hk).1) (by omega)
    refine ⟨p8, l', s_ifT test (e1.trans ?_), n1, fun k hk => ?_, fun k => ?_⟩
    · rw [sp0]
    · rcases (m1 k).mp hk with q | q
      · exact hl k q
      · exact List.mem_range.mp (List.mem_filter.mp q).1
    · rw [m1 k]
      refine or_congr Iff.rfl ⟨fun q => ⟨c1, c.2, (List.mem_filter.mp q).2⟩, fun ⟨_, _, q⟩ => List.mem_filter.mpr ⟨List.mem_range.mpr ?_, q⟩⟩
      have := pst_le q
      omega
theorem pt_turn {A : Alph} (h : AlphOk A) {x : List Str} (hx : IsWord A x) (hn : x.length < 60) {i : Nat} (hi : i < x.length) {T : Sto} (w : WF S) (hT : ∀ ob ∈ T, lowOb 0 ob = true) (o6 o7 o8 : Option D) :
    ∃ p6 p7 p8 T', ptB (ptF A x S.length (some (.int (i : Int))) (some (.str (x.getD i ""))) o6 o7 o8) (S ++ .lst (pastsD A x i) :: T) = .nx (ptF A x S.length (some (.int (i : Int))) (some (.str (x.getD i ""))) p6 p7 p8) (S ++ .lst (pastsD A x (i + 1)) :: T') ∧ ∀ ob ∈ T', lowOb 0 ob = true := by
  have wB : WF (S ++ .lst (pastsD A x i) :: T) := WF.app w fun ob ho => by
    rcases List.mem_cons.mp ho with q | q
    · rw [q]; exact lowL_map fun _ _ => low_nats
    · exact hT ob q
  have gB : (S ++ Ob.lst (pastsD A x i) :: T)[S.length]? = some (.lst (pastsD A x i)) := gp0
  generalize hB : S ++ Ob.lst (pastsD A x i) :: T = B at wB gB
  have s1 : sSet (.nm 6) (eThaw (nDisp1 (eVar 4) (eC (.bl true)))) (ptF A x S.length (some (.int (i : Int))) (some (.str (x.getD i ""))) o6 o7 o8) B = .nx (ptF A x S.length (some (.int (i : Int))) (some (.str (x.getD i ""))) (some (.ref B.length)) o7 o8) (B ++ [.dct false (trueD [i])]) := s_set (x_thaw (ob := .dct false (trueD [i])) rfl)
  have len : (downD ((i : Int) - 1) i).length = i := by unfold downD; rw [List.length_map, List.length_range]
  have go : ∃ p7 p8 l, sFor (.nm 7) (iRange3 (eBin .Sub (eVar 4) (eC (.int 1))) (eUn .USub (eC (.int 1))) (eUn .USub (eC (.int 1)))) ptI (ptF A x S.length (some (.int (i : Int))) (some (.str (x.getD i ""))) (some (.ref B.length)) o7 o8) (B ++ [.dct false (trueD [i])]) = .nx (ptF A x S.length (some (.int (i : Int))) (some (.str (x.getD i ""))) (some (.ref B.length)) p7 p8) (B ++ [.dct false (trueD l)]) ∧ l.Nodup ∧ (∀ k ∈ l, k < x.length) ∧ ∀ k, k ∈ l ↔ k = i ∨ ∃ e, i - i ≤ e ∧ e < i ∧ shr A x e i = true ∧ pst A x e k = true := by
    refine sFor_inv (it := iRange3 (eBin .Sub (eVar 4) (eC (.int 1))) (eUn .USub (eC (.int 1))) (eUn .USub (eC (.int 1)))) (its := downD ((i : Int) - 1) i) (s := .one (.fix (downD ((i : Int) - 1) i))) (S0 := B ++ [.dct false (trueD [i])])
      (fun t ρ X => ∃ p7 p8 l, ρ = ptF A x S.length (some (.int (i : Int))) (some (.str (x.getD i ""))) (some (.ref B.length)) p7 p8 ∧ X = B ++ [.dct false (trueD l)] ∧ l.Nodup ∧ (∀ k ∈ l, k < x.length) ∧ ∀ k, k ∈ l ↔ k = i ∨ ∃ e, i - t ≤ e ∧ e < i ∧ shr A x e i = true ∧ pst A x e k = true)
      (fun r => ∃ p7 p8 l, r = .nx (ptF A x S.length (some (.int (i : Int))) (some (.str (x.getD i ""))) (some (.ref B.length)) p7 p8) (B ++ [.dct false (trueD l)]) ∧ l.Nodup ∧ (∀ k ∈ l, k < x.length) ∧ ∀ k, k ∈ l ↔ k = i ∨ ∃ e, i - i ≤ e ∧ e < i ∧ shr A x e i = true ∧ pst A x e k = true)
      (i_range3 (S1 := B ++ [.dct false (trueD [i])]) (S2 := B ++ [.dct false (trueD [i])]) (S3 := B ++ [.dct false (trueD [i])]) (d := .int ((i : Int) - 1)) (e := .int (-1)) (c := .int (-1)) rfl rfl rfl (range3_ok (by omega))) rfl ⟨o7, o8, [i], rfl, rfl, by simp, by simp; exact hi, fun k => ?_⟩ ?_ ?_
    · rw [List.mem_singleton]
      exact ⟨.inl, fun q => q.elim id fun ⟨e, a, b, _⟩ => by omega⟩
    · rintro t d ρ X hd ⟨p7, p8, l, rfl, rfl, nd, hl, hm⟩
      have ht : t < i := by
        have := (List.getElem?_eq_some_iff.mp hd).1
        rw [len] at this; exact this
      unfold downD at hd
      rw [List.getElem?_map, List.getElem?_range ht] at hd
      have hd := Option.some.inj hd
      have ed : d = .int (((i - 1 - t : Nat) : Nat) : Int) := by
        have e2 : ((i : Int) - 1 + (t : Int) * (-1)) = (((i - 1 - t : Nat) : Nat) : Int) := by omega
        rw [← hd, ← e2]
      subst ed
      obtain ⟨q8, l', e1, n1, b1, m1⟩ := pt_inner (S := S) h hx hi (e := i - 1 - t) (by omega) wB gB nd hl p8
      refine ⟨ptF A x S.length (some (.int (i : Int))) (some (.str (x.getD i ""))) (some (.ref B.length)) (some (.int (((i - 1 - t : Nat) : Nat) : Int))) p8, rfl, ?_⟩
      rw [e1]
      refine ⟨_, _, l', rfl, rfl, n1, b1, fun k => ?_⟩
      rw [m1 k, hm k]
      constructor
      · rintro ((q | ⟨e, a, b, c, d⟩) | ⟨a, b, c⟩)
        · exact .inl q
        · exact .inr ⟨e, by omega, b, c, d⟩
        · exact .inr ⟨i - 1 - t, by omega, by omega, b, c⟩
      · rintro (q | ⟨e, a, b, c, d⟩)
        · exact .inl (.inl q)
        · by_cases q : e = i - 1 - t
          · subst q
            by_cases r : (i - 1 - t) ∈ l
            · rcases (hm _).mp r with z | ⟨e2, a2, b2, c2, d2⟩
              · omega
              · exact .inl (.inr ⟨e2, a2, b2, c2, pst_trans d2 d⟩)
            · exact .inr ⟨r, c, d⟩
          · exact .inl (.inr ⟨e, by omega, b, c, d⟩)
    · rintro ρ X ⟨p7, p8, l, rfl, rfl, nd, hl, hm⟩
      rw [len] at hm
      exact ⟨_, _, l, rfl, nd, hl, hm⟩
  obtain ⟨p7, p8, l, e1, nd, hl, hm⟩ := go
  have mem : ∀ k, k ∈ l ↔ k < x.length ∧ pst A x i k = true := fun k => by
    rw [hm k, pst_iff]
    constructor
    · rintro (q | ⟨e, _, b, c, d⟩)
      · subst q; exact ⟨hi, .inl rfl⟩
      · have := pst_le d
        exact ⟨by omega, .inr ⟨e, b, c, d⟩⟩
    · rintro ⟨_, q | ⟨e, b, c, d⟩⟩
      · exact .inl q
      · exact .inr ⟨e, by omega, b, c, d⟩
  have ll : l.length < 64 := by have := nodup_len nd hl; omega
  have gp : (B ++ [Ob.dct false (trueD l)])[B.length]? = some (.dct false (trueD l)) := gp0
  refine ⟨some (.ref B.length), p7, p8, T ++ [.dct false (trueD l)], s_seqN s1 (s_seqN e1 (s_expr (d := .non) (x_meth (x_var rfl) (ty_refL (xs := pastsD A x i) ?_) rfl (x_cons (x_fix (x_bfN (x_cons (x_var rfl) x_nil) (sorted_true gp nd ll mem))) x_nil) ?_))), fun ob ho => ?_⟩
  · rw [← hB, List.append_assoc]; exact gp0
  · rw [← hB, List.append_assoc, List.cons_append]
    refine (app_at gp0 (by unfold pastsD; rw [List.length_map, List.length_range]; omega)).trans ?_
    rw [sp0]
    unfold pastsD
    rw [List.range_succ, List.map_append]; rfl
  · rcases List.mem_append.mp ho with q | q
    · exact hT ob q
    · rw [List.mem_singleton.mp q]; exact low_true
theorem optAll_id {α : Type} {f : α → Option α} : ∀ {xs : List α}, (∀ d ∈ xs, f d = some d) → optAll f xs = some xs
  | [], _ => rfl
  | x :: xs, h => by
    unfold optAll
    rw [h x (by simp), optAll_id fun d hd => h d (List.mem_cons_of_mem _ hd)]
theorem lowL_mem {n : Nat} : ∀ {xs : List D}, lowL n xs = true → ∀ d ∈ xs, low n d = true
  | x :: xs, h, d, hd => by
    have h : (low n x && lowL n xs) = true := h
    rw [Bool.and_eq_true] at h
    rcases List.mem_cons.mp hd with e | e
    · rw [e]; exact h.1
    · exact lowL_mem h.2 d e
/-- a list of one's own is handed out: what stands in it -/
theorem fn_retR {n m : Nat} {t : St'} {ds : List D} {S1 : Sto} {xs : List D} (w : WF S) (hm : ds.length = m) (ht : t (startR n ds) S = .rt (.ref S.length) S1) (hx : S1[S.length]? = some (.lst xs)) (hl : lowL S.length xs = true) (h2 : S1.take S.length = S) : mkFn n m false t ds S = .ok (.lst xs) S := by
  have fz : frz S1 S.length 40 (.ref S.length) = some (.lst xs) := by
    have nl : low S.length (.ref S.length) = false := decide_eq_false (Nat.lt_irrefl _)
    unfold frz
    rw [if_neg (by rw [nl]; exact Bool.false_ne_true)]
    simp only [hx, optAll_id fun d hd => frz_low 39 (lowL_mem hl d hd), Option.map_some]
  unfold mkFn
  rw [if_pos hm, ht]
  show endD false S (.ref S.length) S1 = _
  unfold endD
  rw [if_neg Bool.false_ne_true, fz, settle_low (by rw [h2]; exact w), h2]
theorem pasts_ok (w : WF S) {A : Alph} (h : AlphOk A) {x : List Str} (hx : IsWord A x) (hn : x.length < 60) : M.f_law_pasts [A.d, wordD x] S = .ok (.lst (pastsD A x x.length)) S := by
  have go : ∃ p4 p5 p6 p7 p8 T, sFor (.tp [(.nm 4), (.nm 5)]) (iEnum1 (eVar 1)) ptB (ptF A x S.length none none none none none) (S ++ [.lst []]) = .nx (ptF A x S.length p4 p5 p6 p7 p8) (S ++ .lst (pastsD A x x.length) :: T) := by
    refine sFor_inv (it := iEnum1 (eVar 1)) (S := S ++ [.lst []]) (ρ := ptF A x S.length none none none none none) (its := ((x.map D.str).zipIdx).map fun p => D.tup [.int (p.2 : Int), p.1]) (s := .enum (.fix (x.map D.str))) (S0 := S ++ [.lst []])
      (fun i ρ X => ∃ p4 p5 p6 p7 p8 T, ρ = ptF A x S.length p4 p5 p6 p7 p8 ∧ X = S ++ .lst (pastsD A x i) :: T ∧ ∀ ob ∈ T, lowOb 0 ob = true)
      (fun r => ∃ p4 p5 p6 p7 p8 T, r = .nx (ptF A x S.length p4 p5 p6 p7 p8) (S ++ .lst (pastsD A x x.length) :: T)) rfl rfl ⟨_, _, _, _, _, [], rfl, rfl, by simp⟩ ?_ ?_
    · rintro i d ρ X hd ⟨p4, p5, p6, p7, p8, T, rfl, rfl, hT⟩
      rw [List.getElem?_map, List.getElem?_zipIdx, List.getElem?_map] at hd
      cases hq : x[i]? with
      | none => rw [hq] at hd; cases hd
      | some z =>
        rw [hq] at hd
        simp at hd
        subst hd
        have hi := (List.getElem?_eq_some_iff.mp hq).1
        have ez : z = x.getD i "" := by rw [List.getD_eq_getElem?_getD, hq]; rfl
        subst ez
        obtain ⟨q6, q7, q8, T', t, hT'⟩ := pt_turn h hx hn hi w hT p6 p7 p8
        refine ⟨ptF A x S.length (some (.int (i : Int))) (some (.str (x.getD i ""))) p6 p7 p8, rfl, ?_⟩
        rw [t]
        exact ⟨_, _, _, _, _, T', rfl, rfl, hT'⟩
    · rintro ρ X ⟨p4, p5, p6, p7, p8, T, rfl, rfl, hT⟩
      rw [List.length_map, List.length_zipIdx, List.length_map]
      exact ⟨_, _, _, _, _, T, rfl⟩
  obtain ⟨p4, p5, p6, p7, p8, T, e⟩ := go
  refine fn_retR (S1 := S ++ .lst (pastsD A x x.length) :: T) w rfl ?_ gp0 (lowL_map fun _ _ => low_nats) List.take_left
  show M.m_law_pasts [some A.d, some (wordD x), none, none, none, none, none, none, none] S = _
  exact s_seqN (s_par (x_cons (x_call (x_cons (x_var rfl) x_nil) (places_ok w h)) (x_cons (x_thaw (x_nLst (x_lLst x_nil (Nat.zero_le _)))) x_nil))) (s_seqN e (s_ret (x_var rfl)))
end
end A1
end
section
set_option Elab.async false
set_option linter.all false
set_option maxRecDepth 100000
set_option maxHeartbeats 4000000
set_option autoImplicit false
/-! plain: the law's last, view, counts -/
namespace A1
open PySem PL
section
variable {S : Sto}
def setD (x : List Str) (P : Nat → Bool) : D := natsD ((List.range x.length).filter P)
def optD : Option Nat → D
  | some m => .int (m : Int)
  | none => .non
theorem yl {A : Alph} {x : List Str} (hx : IsWord A x) {k : Nat} (hk : k < x.length) : x.getD k "" ∈ letters A := hx.2 _ (by rw [List.getD_eq_getElem?_getD, List.getElem?_eq_getElem hk]; exact List.getElem_mem _)
theorem place_ev {A : Alph} (h : AlphOk A) {x : List Str} (hx : IsWord A x) {k : Nat} (hk : k < x.length) : ixD (.dct false (placesD A.rows)) (.str (x.getD k "")) S = .ok (placeD (plc A (x.getD k ""))) S := place_plc h (yl hx hk)
theorem rg_nats {n : Nat} : D.lst (rangeD 0 n) = natsD (List.range n) := by
  unfold rangeD natsD
  congr 1
  refine List.map_congr_left fun k _ => ?_
  rw [Int.zero_add]
theorem last_ok (w : WF S) {A : Alph} (h : AlphOk A) {x : List Str} (hx : IsWord A x) (q : Nat) (P : Nat → Bool) : M.f_law_last [A.d, wordD x, .int (q : Int), setD x P] S = .ok (optD (lastN A x P q)) S := by
  have lx := hx.1
  have lf : ((List.range x.length).filter P).length ≤ x.length := by
    have := List.length_filter_le P (List.range x.length)
    rw [List.length_range] at this; exact this
  let F : Option D → Option D → Fr := fun o5 o6 => [some A.d, some (wordD x), some (.int (q : Int)), some (setD x P), some (.dct false (placesD A.rows)), o5, o6]
  have lc : lLC (.nm 6) (iOf (eVar 3)) (bCmp .In (eVar 2) (eIx (eVar 4) (eIx (eVar 1) (eVar 6)))) (eVar 6) [6] (F none none) S = .ok ((evs A x P q).map fun (k : Nat) => D.int (k : Int)) S := by
    have := lLC_map (S := S) (T := .nm 6) (it := iOf (eVar 3)) (c := bCmp .In (eVar 2) (eIx (eVar 4) (eIx (eVar 1) (eVar 6)))) (f := eVar 6) (vs := [6]) (ρ := F none none) (s := .one (.fix (((List.range x.length).filter P).map fun (k : Nat) => D.int (k : Int)))) (xs := (List.range x.length).filter P) (e := fun (k : Nat) => D.int (k : Int)) (fun k => ev A x q k) (fun (k : Nat) => D.int (k : Int)) (i_of (x_var rfl) rfl) rfl (by omega) fun k hk => by
      have hk := List.mem_range.mp (List.mem_filter.mp hk).1
      exact ⟨F none (some (.int (k : Int))), rfl, y_cmpK (x_var rfl) (x_ixK (x_var rfl) (x_ixK (x_var rfl) (x_var rfl) (word_ix hk)) (place_ev h hx hk)) in_ints, fun _ => x_var rfl⟩
    rw [this, List.filter_filter]
    congr 2
    unfold evs
    refine List.filter_congr fun k _ => ?_
    rw [Bool.and_comm]
  have ne : cmpR .NotEq (.lst ((evs A x P q).map fun (k : Nat) => D.int (k : Int))) (.lst []) S = .ok (!(evs A x P q).isEmpty) S := by
    have := ne_nil (S := S) ((evs A x P q).map fun (k : Nat) => (k : Int))
    rw [List.map_map] at this
    rw [show (fun (k : Nat) => D.int (k : Int)) = D.int ∘ fun (k : Nat) => (k : Int) from rfl, this]
    cases evs A x P q <;> rfl
  refine fn_pure w rfl ?_ (by cases lastN A x P q <;> rfl)
  show M.m_law_last (([some A.d, some (wordD x), some (.int (q : Int)), some (setD x P), none, none, none] : Fr)) S = _
  refine s_seqN (s_set (x_call (x_cons (x_var rfl) x_nil) (places_ok w h))) (s_seqN (s_set (x_fix (x_nLst lc))) (s_ret ?_))
  unfold lastN
  by_cases c : evs A x P q = []
  · rw [if_pos c]
    rw [c] at ne
    exact x_ifF (y_cmpK (x_var (by rw [c]; rfl)) (x_fix (x_nLst (x_lLst x_nil (Nat.zero_le _)))) ne) rfl
  · rw [if_neg c]
    refine x_ifT (y_cmpK (x_var rfl) (x_fix (x_nLst (x_lLst x_nil (Nat.zero_le _)))) (ne.trans ?_)) (x_bf (x_cons (x_var rfl) x_nil) (max_lst c))
    cases e : evs A x P q with
    | nil => exact absurd e c
    | cons a b => rfl
theorem isnot_none {o : Option Nat} : cmpR .IsNot (optD o) .non S = .ok o.isSome S := by cases o <;> rfl
/-- the past of the last event, or nothing -/
theorem x_past {A : Alph} {x : List Str} {ρ : Fr} {i j : Nat} {o : Option Nat} (h1 : ρ[i]? = some (some (optD o))) (h2 : ρ[j]? = some (some (.lst (pastsD A x x.length)))) (ho : ∀ m, o = some m → m < x.length) :
    eIf (bCmp .IsNot (eVar i) (eC .non)) (eIx (eVar j) (eVar i)) (eFixN (nLst (lLst aNil))) ρ S = .ok (setD x (ofL A x o)) S := by
  cases o with
  | none =>
    refine x_ifF (y_cmpK (x_var h1) x_c isnot_none) ?_
    have : setD x (ofL A x none) = .lst [] := by
      unfold setD natsD
      rw [List.filter_eq_nil_iff.mpr fun k _ => by exact Bool.false_ne_true]; rfl
    rw [this]
    exact x_fix (x_nLst (x_lLst x_nil (Nat.zero_le _)))
  | some m =>
    have hm := ho m rfl
    refine x_ifT (y_cmpK (x_var h1) x_c isnot_none) (x_ixK (x_var h2) (x_var h1) ?_)
    exact ix_nat (xs := pastsD A x x.length) rfl (by unfold pastsD; rw [List.getElem?_map, List.getElem?_range hm]; rfl)
abbrev vwB : St' := sSeq (sSet (.nm 6) (eCallD M.f_law_last [] (aCons (eVar 0) (aCons (eVar 1) (aCons (eVar 5) (aCons (eFixN (nRg (eBf lenD (aCons (eVar 1) aNil)))) aNil)))))) (sFor (.nm 7) (iOf (eIf (bCmp .IsNot (eVar 6) (eC .non)) (eIx (eVar 3) (eVar 6)) (eFixN (nLst (lLst aNil))))) (sPut (eVar 4) (eVar 7) (eC (.bl true))))
abbrev vwF (A : Alph) (x : List Str) (q l : Nat) (o5 o6 o7 : Option D) : Fr := [some A.d, some (wordD x), some (.tup [.int (q : Int)]), some (.lst (pastsD A x x.length)), some (.ref l), o5, o6, o7]
theorem vw_turn (w : WF S) {A : Alph} (h : AlphOk A) {x : List Str} (hx : IsWord A x) (q : Nat) (o6 o7 : Option D) :
    ∃ p6 p7 l, vwB (vwF A x q S.length (some (.int (q : Int))) o6 o7) (S ++ [.dct false (trueD [])]) = .nx (vwF A x q S.length (some (.int (q : Int))) p6 p7) (S ++ [.dct false (trueD l)]) ∧ l.Nodup ∧ ∀ k, k ∈ l ↔ k < x.length ∧ vw A x q k = true := by
  have lx := hx.1
  have wX : WF (S ++ [.dct false (trueD [])]) := WF.app w fun ob ho => by rw [List.mem_singleton.mp ho]; exact low_true
  have lo := last_ok wX h hx q allE
  have er : setD x allE = .lst (rangeD 0 x.length) := by
    rw [rg_nats]
    unfold setD
    rw [show (List.range x.length).filter allE = List.range x.length from List.filter_eq_self.mpr fun _ _ => rfl]
  rw [er] at lo
  have rg : ∀ ρ : Fr, ρ[1]? = some (some (wordD x)) → eFixN (nRg (eBf lenD (aCons (eVar 1) aNil))) ρ (S ++ [.dct false (trueD [])]) = .ok (.lst (rangeD 0 x.length)) (S ++ [.dct false (trueD [])]) := fun ρ h1 => by
    refine x_fix (ob := .lst (rangeD 0 x.length)) ?_
    unfold nRg
    rw [x_bf (x_cons (x_var h1) x_nil) len_word]
    show rgOb (.int (x.length : Int)) _ = _
    unfold rgOb
    simp only
    rw [if_pos ⟨by omega, by omega⟩, Int.toNat_natCast]
  have s1 := s_set (i := 6) (x_call (fn := M.f_law_last) (ρ := vwF A x q S.length (some (.int (q : Int))) o6 o7) (x_cons (x_var (i := 0) rfl) (x_cons (x_var (i := 1) rfl) (x_cons (x_var (i := 5) rfl) (x_cons (rg _ rfl) x_nil)))) lo)
  have gp : (S ++ [Ob.dct false (trueD [])])[S.length]? = some (.dct false (trueD [])) := gp0
  have src := i_of (x_past (S := S ++ [.dct false (trueD [])]) (A := A) (x := x) (ρ := vwF A x q S.length (some (.int (q : Int))) (some (optD (lastN A x allE q))) o7) (i := 6) (j := 3) rfl rfl fun m hm => lastN_lt hm) (s := .one (.fix (((List.range x.length).filter (vw A x q)).map fun (k : Nat) => D.int (k : Int)))) rfl
  obtain ⟨p7, l, e, nd, hm⟩ := add_loop (F := fun o => vwF A x q S.length (some (.int (q : Int))) (some (optD (lastN A x allE q))) o) (i := 7) (d := 4) (p := S.length) (l := []) (ms := (List.range x.length).filter (vw A x q)) (n := x.length) (fun _ _ => rfl) (fun _ => rfl) (fun _ => rfl) gp src (by simp) (by simp) (fun k hk => List.mem_range.mp (List.mem_filter.mp hk).1) (by omega)
  rw [sp0] at e
  refine ⟨_, p7, l, s_seqN s1 e, nd, fun k => ?_⟩
  rw [hm k, List.mem_filter, List.mem_range]
  simp
theorem view_ok (w : WF S) {A : Alph} (h : AlphOk A) {x : List Str} (hx : IsWord A x) (hn : x.length < 60) (q : Nat) : M.f_law_view [A.d, wordD x, .tup [.int (q : Int)]] S = .ok (setD x (vw A x q)) S := by
  obtain ⟨p6, p7, l, t, nd, hm⟩ := vw_turn w h hx q none none
  have go : sFor (.nm 5) (iOf (eVar 2)) vwB (vwF A x q S.length none none none) (S ++ [.dct false (trueD [])]) = .nx (vwF A x q S.length (some (.int (q : Int))) p6 p7) (S ++ [.dct false (trueD l)]) := by
    have src : iOf (eVar 2) (vwF A x q S.length none none none) (S ++ [.dct false (trueD [])]) = .ok (.one (.fix [.int (q : Int)])) (S ++ [.dct false (trueD [])]) := rfl
    unfold sFor
    rw [src]
    show runFor (.nm 5) vwB (.one (.fix [.int (q : Int)])) 2 0 _ _ = _
    unfold runFor
    show (match vwB (vwF A x q S.length (some (.int (q : Int))) none none) (S ++ [.dct false (trueD [])]) with
      | .nx ρ2 S2 => runFor (.nm 5) vwB (.one (.fix [.int (q : Int)])) 1 1 ρ2 S2
      | .ct ρ2 S2 => runFor (.nm 5) vwB (.one (.fix [.int (q : Int)])) 1 1 ρ2 S2
      | .bk ρ2 S2 => .nx ρ2 S2
      | r => r) = _
    rw [t]
    rfl
  have ll : l.length < 64 := by have := nodup_len nd fun k hk => ((hm k).mp hk).1; omega
  refine fn_ret rfl (S1 := S ++ [.dct false (trueD l)]) ?_ low_nats List.take_left w
  show M.m_law_view [some A.d, some (wordD x), some (.tup [.int (q : Int)]), none, none, none, none, none] S = _
  exact s_seqN (s_par (x_cons (x_call (x_cons (x_var rfl) (x_cons (x_var rfl) x_nil)) (pasts_ok w h hx hn)) (x_cons (x_thaw (ob := .dct false (trueD [])) rfl) x_nil))) (s_seqN go (s_ret (x_fix (x_bfN (x_cons (x_var rfl) x_nil) (sorted_true gp0 nd ll hm)))))
end
end A1
end
section
set_option Elab.async false
set_option linter.all false
set_option maxRecDepth 100000
set_option maxHeartbeats 4000000
set_option autoImplicit false
/-! plain: the law's counts and tables -/
namespace A1
open PySem PL
section
variable {S : Sto}
def cntsD (l : List Nat) : D := .tup (l.map fun (n : Nat) => D.int (n : Int))
def tabD (t : Tab) : D := .tup [cntsD t.1, .tup (t.2.map cntsD)]
theorem low_cnts {l : List Nat} {n : Nat} : low n (cntsD l) = true := lowL_map fun _ _ => rfl
theorem low_tab {t : Tab} {n : Nat} : low n (tabD t) = true := by
  show (low n (cntsD t.1) && (lowL n (t.2.map cntsD) && true)) = true
  rw [low_cnts, lowL_map fun _ _ => low_cnts]; rfl
theorem plc_lt {A : Alph} (h : AlphOk A) {z : Str} (hz : z ∈ letters A) : (plc A z).Pairwise (· < ·) := by
  obtain ⟨r, hr, rfl⟩ := List.mem_map.mp hz
  rw [plc_row h hr]
  exact (h.places r hr).2.2.1
theorem not_before {l : List Int} (h : l.Pairwise (· < ·)) {j : Nat} {p : Int} (hp : l[j]? = some p) : p ∉ l.take j := fun hm => by
  obtain ⟨i, hi, e⟩ := List.getElem_of_mem hm
  rw [List.length_take] at hi
  obtain ⟨hj, e2⟩ := List.getElem?_eq_some_iff.mp hp
  rw [List.getElem_take] at e
  have := List.pairwise_iff_getElem.mp h i j (by omega) hj (by omega)
  omega
abbrev ctF (A : Alph) (x : List Str) (P : Nat → Bool) (l : Nat) (o5 o6 : Option D) : Fr := [some A.d, some (wordD x), some (setD x P), some (.dct false (placesD A.rows)), some (.ref l), o5, o6]
abbrev ctI : St' := sFor (.nm 6) (iOf (eIx (eVar 3) (eIx (eVar 1) (eVar 5)))) (sPut (eVar 4) (eVar 6) (eBin .Add (eIx (eVar 4) (eVar 6)) (eC (.int 1))))
theorem ct_inner {A : Alph} (h : AlphOk A) {x : List Str} (hx : IsWord A x) (P : Nat → Bool) {k : Nat} (hk : k < x.length) (f : Nat → Nat) (o6 : Option D) :
    ∃ p6, ctI (ctF A x P S.length (some (.int (k : Int))) o6) (S ++ [.lst (lvD A f)]) = .nx (ctF A x P S.length (some (.int (k : Int))) p6) (S ++ [.lst (lvD A fun r => f r + if ev A x r k = true then 1 else 0)]) := by
  have zl := yl hx hk
  have src : iOf (eIx (eVar 3) (eIx (eVar 1) (eVar 5))) (ctF A x P S.length (some (.int (k : Int))) o6) (S ++ [.lst (lvD A f)]) = .ok (.one (.fix ((plc A (x.getD k "")).map D.int))) (S ++ [.lst (lvD A f)]) := i_of (x_ixK (x_var rfl) (x_ixK (x_var rfl) (x_var rfl) (word_ix hk)) (place_ev h hx hk)) rfl
  refine sFor_inv (its := (plc A (x.getD k "")).map D.int) (s := .one (.fix ((plc A (x.getD k "")).map D.int))) (S0 := S ++ [.lst (lvD A f)])
    (fun j ρ X => ∃ p6, ρ = ctF A x P S.length (some (.int (k : Int))) p6 ∧ X = S ++ [.lst (lvD A fun r => f r + if (r : Int) ∈ (plc A (x.getD k "")).take j then 1 else 0)])
    (fun r => ∃ p6, r = .nx (ctF A x P S.length (some (.int (k : Int))) p6) (S ++ [.lst (lvD A fun r => f r + if ev A x r k = true then 1 else 0)])) src rfl ⟨o6, rfl, by simp⟩ ?_ ?_
  · rintro j d ρ X hd ⟨p6, rfl, rfl⟩
    rw [List.getElem?_map] at hd
    cases hp : (plc A (x.getD k ""))[j]? with
    | none => rw [hp] at hd; cases hd
    | some p =>
      rw [hp] at hd
      obtain rfl := Option.some.inj hd
      obtain ⟨k1, k2⟩ := plc_in h zl p (List.mem_of_getElem? hp)
      obtain ⟨a, rfl⟩ := Int.eq_ofNat_of_zero_le k1
      have nb := not_before (plc_lt h zl) hp
      have ia : ixD (.ref S.length) (.int (a : Int)) (S ++ [.lst (lvD A fun r => f r + if (r : Int) ∈ (plc A (x.getD k "")).take j then 1 else 0)]) = .ok (.int (f a : Int)) (S ++ [.lst (lvD A fun r => f r + if (r : Int) ∈ (plc A (x.getD k "")).take j then 1 else 0)]) := by
        refine ix_ref gp0 ?_
        unfold lvD
        rw [List.getElem?_map, List.getElem?_range (by omega), Option.map_some]
        show some (D.int (((f a + if (a : Int) ∈ (plc A (x.getD k "")).take j then 1 else 0 : Nat)) : Int)) = _
        rw [if_neg nb]; rfl
      refine ⟨ctF A x P S.length (some (.int (k : Int))) (some (.int (a : Int))), rfl, ?_⟩
      have st : sPut (eVar 4) (eVar 6) (eBin .Add (eIx (eVar 4) (eVar 6)) (eC (.int 1))) (ctF A x P S.length (some (.int (k : Int))) (some (.int (a : Int)))) (S ++ [.lst (lvD A fun r => f r + if (r : Int) ∈ (plc A (x.getD k "")).take j then 1 else 0)]) = .nx (ctF A x P S.length (some (.int (k : Int))) (some (.int (a : Int)))) (S ++ [.lst (lvD A fun r => f r + if (r : Int) ∈ (plc A (x.getD k "")).take (j + 1) then 1 else 0)]) := by
        refine s_put (x_binK (x_ixK (x_var rfl) (x_var rfl) ia) x_c (add_ok (i := (f a : Int)) (j := 1))) (x_var rfl) (x_var rfl) ?_
        refine (put_ref gp0 (by simp [lvD]; omega)).trans ?_
        rw [sp0, show ((f a : Int) + 1) = ((f a + 1 : Nat) : Int) by omega, lvD_set]
        congr 4
        congr 1
        funext b
        rw [List.take_succ, hp]
        by_cases e : b = a
        · subst e
          rw [if_pos rfl, if_pos (by simp)]
        · have : ¬ ((b : Int) = (a : Int)) := by omega
          rw [if_neg e]
          simp [this]
      rw [st]
      exact ⟨_, rfl, rfl⟩
  · rintro ρ X ⟨p6, rfl, rfl⟩
    rw [List.length_map, List.take_length]
    refine ⟨p6, ?_⟩
    congr 4
    congr 1
    funext r
    unfold ev
    by_cases c : (r : Int) ∈ plc A (x.getD k "")
    · rw [if_pos c, if_pos (decide_eq_true c)]
    · rw [if_neg c, if_neg (by rw [decide_eq_false c]; exact Bool.false_ne_true)]
theorem counts_ok (w : WF S) {A : Alph} (h : AlphOk A) {x : List Str} (hx : IsWord A x) (P : Nat → Bool) : M.f_law_counts [A.d, wordD x, setD x P] S = .ok (cntsD (cntL A x P)) S := by
  have m1 := h.m1
  have m5 := h.m5
  let L : List Nat := (List.range x.length).filter P
  have go : ∃ p5 p6, sFor (.nm 5) (iOf (eVar 2)) ctI (ctF A x P S.length none none) (S ++ [.lst (lvD A fun _ => 0)]) = .nx (ctF A x P S.length p5 p6) (S ++ [.lst (lvD A fun r => (L.filter fun k => ev A x r k).length)]) := by
    refine sFor_inv (it := iOf (eVar 2)) (its := L.map fun (k : Nat) => D.int (k : Int)) (s := .one (.fix (L.map fun (k : Nat) => D.int (k : Int)))) (S0 := S ++ [.lst (lvD A fun _ => 0)])
      (fun t ρ X => ∃ p5 p6, ρ = ctF A x P S.length p5 p6 ∧ X = S ++ [.lst (lvD A fun r => ((L.take t).filter fun k => ev A x r k).length)])
      (fun r => ∃ p5 p6, r = .nx (ctF A x P S.length p5 p6) (S ++ [.lst (lvD A fun r => (L.filter fun k => ev A x r k).length)])) (i_of (x_var rfl) rfl) rfl ⟨_, _, rfl, rfl⟩ ?_ ?_
    · rintro t d ρ X hd ⟨p5, p6, rfl, rfl⟩
      rw [List.getElem?_map] at hd
      cases hq : L[t]? with
      | none => rw [hq] at hd; cases hd
      | some k =>
        rw [hq] at hd
        obtain rfl := Option.some.inj hd
        have hk : k < x.length := List.mem_range.mp (List.mem_filter.mp (List.mem_of_getElem? hq)).1
        obtain ⟨q6, e⟩ := ct_inner (S := S) h hx P hk (fun r => ((L.take t).filter fun k => ev A x r k).length) p6
        refine ⟨ctF A x P S.length (some (.int (k : Int))) p6, rfl, ?_⟩
        rw [e]
        refine ⟨_, _, rfl, ?_⟩
        congr 4
        funext r
        rw [List.take_succ, hq, List.filter_append, List.length_append]
        cases c : ev A x r k <;> simp [c]
    · rintro ρ X ⟨p5, p6, rfl, rfl⟩
      rw [List.length_map, List.take_length]
      exact ⟨_, _, rfl⟩
  obtain ⟨p5, p6, e⟩ := go
  refine fn_ret rfl (S1 := S ++ [.lst (lvD A fun r => (L.filter fun k => ev A x r k).length)]) ?_ low_cnts List.take_left w
  show M.m_law_counts [some A.d, some (wordD x), some (setD x P), none, none, none, none] S = _
  refine s_seqN (s_set (x_call (x_cons (x_var rfl) x_nil) (places_ok w h))) (s_seqN (s_set (x_thaw (x_nRep (x_lLst (x_cons x_c x_nil) (Nat.le_trans (show 1 ≤ 10000 by decide) (by decide))) (x_ixK (x_var rfl) x_c ixA0) (rep_zero m1 m5)))) (s_seqN e (s_ret (x_bf (x_cons (x_var rfl) x_nil) ?_))))
  unfold tupleD
  simp only [seq_ref (gp0 (S := S) (a := .lst (lvD A fun r => (L.filter fun k => ev A x r k).length)) (T := []))]
  congr 2
  unfold cntL lvD
  rw [List.map_map]
  refine List.map_congr_left fun r _ => ?_
  show D.int _ = D.int _
  congr 2
  show (List.filter (fun k => ev A x r k) (List.filter P (List.range x.length))).length = (List.filter (fun k => P k && ev A x r k) (List.range x.length)).length
  rw [List.filter_filter]
  congr 1
  refine List.filter_congr fun k _ => ?_
  rw [Bool.and_comm]
abbrev tbF (A : Alph) (x : List Str) (q l : Nat) (o6 o7 : Option D) : Fr := [some A.d, some (wordD x), some (.int (q : Int)), some (.lst (pastsD A x x.length)), some (setD x (vw A x q)), some (.ref l), o6, o7]
abbrev tbB : St' := sSeq (sSet (.nm 7) (eCallD M.f_law_last [] (aCons (eVar 0) (aCons (eVar 1) (aCons (eVar 6) (aCons (eVar 4) aNil)))))) (sExpr (eMeth [("list", appendD)] (eVar 5) (aCons (eCallD M.f_law_counts [] (aCons (eVar 0) (aCons (eVar 1) (aCons (eIf (bCmp .IsNot (eVar 7) (eC .non)) (eIx (eVar 3) (eVar 7)) (eFixN (nLst (lLst aNil)))) aNil)))) aNil)))
def rowT (A : Alph) (x : List Str) (q r : Nat) : D := cntsD (cntL A x (ofL A x (lastN A x (vw A x q) r)))
theorem items_fix (xs : List D) : itemsOf (.one (.fix xs)) = some xs := rfl
theorem table_ok (w : WF S) {A : Alph} (h : AlphOk A) {x : List Str} (hx : IsWord A x) (hn : x.length < 60) (q : Nat) : M.f_law_table [A.d, wordD x, .int (q : Int)] S = .ok (tabD (tab A x q)) S := by
  have m5 := h.m5
  have len : (rangeD 0 A.many).length = A.many := by unfold rangeD; rw [List.length_map, List.length_range]
  have wf : ∀ i, WF (S ++ [.lst ((List.range i).map (rowT A x q))]) := fun i => WF.app w fun ob ho => by
    rw [List.mem_singleton.mp ho]; exact lowL_map fun _ _ => low_cnts
  have hit : iRange1 (eIx (eVar 0) (eC (.int 0))) (tbF A x q S.length none none) (S ++ [.lst []]) = .ok (.one (.fix (rangeD 0 A.many))) (S ++ [.lst []]) := i_range (x_ixK (x_var rfl) x_c ixA0) (range1_ok (by omega))
  have h0 : S ++ [Ob.lst []] = S ++ [.lst ((List.range 0).map (rowT A x q))] := by rw [List.range_zero, List.map_nil]
  have go : ∃ p6 p7, sFor (.nm 6) (iRange1 (eIx (eVar 0) (eC (.int 0)))) tbB (tbF A x q S.length none none) (S ++ [.lst []]) = .nx (tbF A x q S.length p6 p7) (S ++ [.lst ((List.range A.many).map (rowT A x q))]) := by
    refine sFor_inv
      (fun i ρ X => ∃ p6 p7, ρ = tbF A x q S.length p6 p7 ∧ X = S ++ [.lst ((List.range i).map (rowT A x q))])
      (fun r => ∃ p6 p7, r = .nx (tbF A x q S.length p6 p7) (S ++ [.lst ((List.range A.many).map (rowT A x q))])) hit (items_fix (rangeD 0 A.many)) ⟨none, none, rfl, h0⟩ ?_ ?_
    · rintro i d ρ X hd ⟨p6, p7, rfl, rfl⟩
      obtain ⟨rfl, hi⟩ := range_at hd
      have wi := wf i
      have e1 := last_ok wi h hx i (vw A x q)
      have e2 := counts_ok wi h hx (ofL A x (lastN A x (vw A x q) i))
      have pa := x_past (S := S ++ [.lst ((List.range i).map (rowT A x q))]) (A := A) (x := x) (ρ := tbF A x q S.length (some (.int (i : Int))) (some (optD (lastN A x (vw A x q) i)))) (i := 7) (j := 3) rfl rfl fun m hm => lastN_lt hm
      have t : tbB (tbF A x q S.length (some (.int (i : Int))) p7) (S ++ [.lst ((List.range i).map (rowT A x q))]) = .nx (tbF A x q S.length (some (.int (i : Int))) (some (optD (lastN A x (vw A x q) i)))) (S ++ [.lst ((List.range (i + 1)).map (rowT A x q))]) := by
        refine s_seqN (s_set (x_call (x_cons (x_var rfl) (x_cons (x_var rfl) (x_cons (x_var rfl) (x_cons (x_var rfl) x_nil)))) e1)) (s_expr (d := .non) (x_meth (x_var rfl) (ty_refL gp0) rfl (x_cons (x_call (x_cons (x_var rfl) (x_cons (x_var rfl) (x_cons pa x_nil))) e2) x_nil) ?_))
        refine (app_at gp0 (by rw [List.length_map, List.length_range]; omega)).trans ?_
        rw [sp0, List.range_succ, List.map_append]; rfl
      refine ⟨tbF A x q S.length (some (.int (i : Int))) p7, rfl, ?_⟩
      rw [t]
      exact ⟨_, _, rfl, rfl⟩
    · rintro ρ X ⟨p6, p7, rfl, rfl⟩
      rw [len]
      exact ⟨_, _, rfl⟩
  obtain ⟨p6, p7, e⟩ := go
  have two : 2 ≤ sizeLine := Nat.le_trans (show 2 ≤ 10000 by decide) (by decide)
  have one : 1 ≤ sizeLine := Nat.le_trans (show 1 ≤ 10000 by decide) (by decide)
  refine fn_ret rfl (S1 := S ++ [.lst ((List.range A.many).map (rowT A x q))]) ?_ low_tab List.take_left w
  show M.m_law_table [some A.d, some (wordD x), some (.int (q : Int)), none, none, none, none, none] S = _
  refine s_seqN (s_par (x_cons (x_call (x_cons (x_var rfl) (x_cons (x_var rfl) x_nil)) (pasts_ok w h hx hn)) (x_cons (x_call (x_cons (x_var rfl) (x_cons (x_var rfl) (x_cons (x_tup (x_cons (x_var rfl) x_nil) one) x_nil))) (view_ok w h hx hn q)) x_nil))) (s_seqN (s_set (x_thaw (x_nLst (x_lLst x_nil (Nat.zero_le _))))) (s_seqN e (s_ret ?_)))
  have tp : tupleD [.ref S.length] (S ++ [.lst ((List.range A.many).map (rowT A x q))]) = .ok (.tup ((List.range A.many).map (rowT A x q))) (S ++ [.lst ((List.range A.many).map (rowT A x q))]) := by
    unfold tupleD
    simp only [seq_ref (gp0 (S := S) (a := .lst ((List.range A.many).map (rowT A x q))) (T := []))]
  have ed : tabD (tab A x q) = .tup [cntsD (cntL A x (vw A x q)), .tup ((List.range A.many).map (rowT A x q))] := by
    unfold tabD tab
    simp only [List.map_map]
    rfl
  rw [ed]
  exact x_tup (x_cons (x_call (x_cons (x_var rfl) (x_cons (x_var rfl) (x_cons (x_var rfl) x_nil))) (counts_ok (wf A.many) h hx (vw A x q))) (x_cons (x_bf (x_cons (x_var rfl) x_nil) tp) x_nil)) two
end
end A1
end
section
set_option Elab.async false
set_option linter.all false
set_option maxRecDepth 100000
set_option maxHeartbeats 4000000
set_option autoImplicit false
/-! plain: the program's tables -/
namespace A1
open PySem PL
section
variable {S : Sto}
def nwF (c : Nat → Nat) : Nat → Nat
  | 0 => 0
  | i + 1 => if c i > c (nwF c i) then i else nwF c i
theorem nwF_lt {c : Nat → Nat} : ∀ {n : Nat}, 0 < n → nwF c n < n
  | n + 1, _ => by
    unfold nwF
    split
    · omega
    · cases n with
      | zero => simp [nwF]
      | succ n => have := nwF_lt (c := c) (n := n + 1) (by omega); omega
theorem nwF_max {c : Nat → Nat} : ∀ {n j : Nat}, j < n → c j ≤ c (nwF c n)
  | n + 1, j, h => by
    unfold nwF
    by_cases e : j = n
    · subst e
      split
      · exact Nat.le_refl _
      · omega
    · have := nwF_max (c := c) (n := n) (j := j) (by omega)
      split
      · omega
      · exact this
structure TabOk (many : Nat) (t : Tab) : Prop where
  a : t.1.length = many
  b : t.2.length = many
  c : ∀ l ∈ t.2, l.length = many
theorem tab_ok {A : Alph} {x : List Str} {q : Nat} : TabOk A.many (tab A x q) :=
  ⟨by simp [tab, cntL], by simp [tab], fun l hl => by
    obtain ⟨r, _, rfl⟩ := List.mem_map.mp hl
    simp [cntL]⟩
theorem ge_zero {n : Nat} : cmpD .GtE (.int (n : Int)) (.int 0) S = .ok (.bl true) S := by
  simp [cmpD, cmpR, cmpS, PL.leS, Res.val, Res.bind]
theorem is_clock_ok (w : WF S) {many : Nat} (hm : many ≤ 100) {l : List Nat} (hl : l.length = many) : M.f_is_clock_in [.int many, cntsD l] S = .ok (.bl true) S := by
  refine fn_pure w rfl ?_ rfl
  show M.m_is_clock_in [some (.int many), some (cntsD l), none] S = _
  have ty : isiD [cntsD l, .ty "tuple"] S = .ok (.bl true) S := rfl
  have ln : lenD [cntsD l] S = .ok (.int many) S := by
    show Res.ok (D.int ((l.map fun (n : Nat) => D.int (n : Int)).length : Int)) S = _
    rw [List.length_map, hl]
  have lc : lLC (.nm 2) (iOf (eVar 1)) bYes (eAnd (eCallD M.f_is_integer [] (aCons (eVar 2) aNil)) (eCmp .GtE (eVar 2) (eC (.int 0)))) [2] [some (.int many), some (cntsD l), none] S = .ok (tts (l.map fun (n : Nat) => D.int (n : Int)).length) S := by
    refine lLC_tt (s := .one (.fix (l.map fun (n : Nat) => D.int (n : Int)))) rfl rfl (by rw [List.length_map]; omega) fun d hd => ?_
    obtain ⟨n, _, rfl⟩ := List.mem_map.mp hd
    refine ⟨[some (.int many), some (cntsD l), some (.int (n : Int))], rfl, x_and (b := true) (x_call (x_cons (x_var rfl) x_nil) (is_integer_int w _)) (fun _ => ?_) (fun q => by cases q)⟩
    exact x_cmpK (x_var rfl) x_c ge_zero
  have ne : cmpR .NotEq (.int many) (.int many) S = .ok false S := by simp [cmpR, cmpS, eqS, toPyN, PyData.eqv]
  exact s_seqN (s_ifF (y_orF (y_not (y_val (x_bf (x_cons (x_var rfl) (x_cons x_c x_nil)) ty))) (y_cmpK (x_bf (x_cons (x_var rfl) x_nil) ln) (x_var rfl) ne)) rfl) (s_ret (x_bf (x_cons (x_fix (x_nLst lc)) x_nil) (all_tts _)))
theorem is_table_ok (w : WF S) {many : Nat} (hm : many ≤ 100) {t : Tab} (h : TabOk many t) : M.f_is_table_in [.int many, tabD t] S = .ok (.bl true) S := by
  refine fn_pure w rfl ?_ rfl
  show M.m_is_table_in [some (.int many), some (tabD t), none] S = _
  have ty : isiD [tabD t, .ty "tuple"] S = .ok (.bl true) S := rfl
  have ln : lenD [tabD t] S = .ok (.int 2) S := rfl
  have i0 : ixD (tabD t) (.int 0) S = .ok (cntsD t.1) S := ix0
  have i1 : ixD (tabD t) (.int 1) S = .ok (.tup (t.2.map cntsD)) S := ix1
  have ty1 : isiD [.tup (t.2.map cntsD), .ty "tuple"] S = .ok (.bl true) S := rfl
  have ln1 : lenD [.tup (t.2.map cntsD)] S = .ok (.int many) S := by
    show Res.ok (D.int ((t.2.map cntsD).length : Int)) S = _
    rw [List.length_map, h.b]
  have ne2 : cmpR .NotEq (.int 2) (.int 2) S = .ok false S := by simp [cmpR, cmpS, eqS, toPyN, PyData.eqv]
  have ne : cmpR .NotEq (.int many) (.int many) S = .ok false S := by simp [cmpR, cmpS, eqS, toPyN, PyData.eqv]
  have c0 := is_clock_ok w hm h.a
  have lc : lLC (.nm 2) (iOf (eIx (eVar 1) (eC (.int 1)))) bYes (eCallD M.f_is_clock_in [] (aCons (eVar 0) (aCons (eVar 2) aNil))) [2] [some (.int many), some (tabD t), none] S = .ok (tts (t.2.map cntsD).length) S := by
    refine lLC_tt (s := .one (.fix (t.2.map cntsD))) (i_of (x_ixK (x_var rfl) x_c i1) rfl) rfl (by rw [List.length_map, h.b]; omega) fun d hd => ?_
    obtain ⟨l, hl, rfl⟩ := List.mem_map.mp hd
    exact ⟨[some (.int many), some (tabD t), some (cntsD l)], rfl, x_call (x_cons (x_var rfl) (x_cons (x_var rfl) x_nil)) (is_clock_ok w hm (h.c l hl))⟩
  exact s_seqN (s_ifF (y_orF (y_not (y_val (x_bf (x_cons (x_var rfl) (x_cons x_c x_nil)) ty))) (y_orF (y_cmpK (x_bf (x_cons (x_var rfl) x_nil) ln) x_c ne2) (y_not (y_val (x_call (x_cons (x_var rfl) (x_cons (x_ixK (x_var rfl) x_c i0) x_nil)) c0))))) rfl)
    (s_seqN (s_ifF (y_orF (y_not (y_val (x_bf (x_cons (x_ixK (x_var rfl) x_c i1) (x_cons x_c x_nil)) ty1))) (y_cmpK (x_bf (x_cons (x_ixK (x_var rfl) x_c i1) x_nil) ln1) (x_var rfl) ne)) rfl)
      (s_ret (x_bf (x_cons (x_fix (x_nLst lc)) x_nil) (all_tts _))))
/-! the newest -/
def cAt (ts : List Tab) (r j : Nat) : Nat := (ts.getD j ([], [])).1.getD r 0
theorem gt_int {i j : Nat} : cmpR .Gt (.int (i : Int)) (.int (j : Int)) S = .ok (decide (i > j)) S := by
  have : decide ((j : Int) < (i : Int)) = decide (i > j) := decide_eq_decide.mpr (by omega)
  simp [cmpR, cmpS, ltS, this]
theorem ix_cnt {ts : List Tab} {many r j : Nat} (hts : ∀ t ∈ ts, TabOk many t) (hj : j < ts.length) (hr : r < many) : ixD (cntsD (ts.getD j ([], [])).1) (.int (r : Int)) S = .ok (.int (cAt ts r j : Int)) S := by
  have ht : ts.getD j ([], []) ∈ ts := by rw [List.getD_eq_getElem?_getD, List.getElem?_eq_getElem hj]; exact List.getElem_mem _
  have := (hts _ ht).a
  refine ix_nat (xs := (ts.getD j ([], [])).1.map fun (n : Nat) => D.int (n : Int)) rfl ?_
  unfold cAt
  rw [List.getElem?_map, List.getD_eq_getElem?_getD (l := (ts.getD j ([], [])).1), List.getElem?_eq_getElem (show r < (ts.getD j ([], [])).1.length by omega)]
  rfl
theorem ix_tab {ts : List Tab} {j : Nat} (hj : j < ts.length) : ixD (.tup (ts.map tabD)) (.int (j : Int)) S = .ok (tabD (ts.getD j ([], []))) S := ix_nat (xs := ts.map tabD) rfl (by
  rw [List.getElem?_map, List.getD_eq_getElem?_getD, List.getElem?_eq_getElem hj]; rfl)
abbrev nwFr (ts : List Tab) (r : Nat) (o2 o3 o4 : Option D) : Fr := [some (.tup (ts.map tabD)), some (.int (r : Int)), o2, o3, o4]
abbrev nwB : St' := sIf (bCmp .Gt (eIx (eIx (eVar 4) (eC (.int 0))) (eVar 1)) (eIx (eIx (eIx (eVar 0) (eVar 2)) (eC (.int 0))) (eVar 1))) (sSet (.nm 2) (eVar 3)) sNext
theorem newest_ok (w : WF S) {ts : List Tab} {many r : Nat} (h0 : 0 < ts.length) (h5 : ts.length ≤ 100) (hts : ∀ t ∈ ts, TabOk many t) (hr : r < many) : M.f_newest_in [.tup (ts.map tabD), .int (r : Int)] S = .ok (.int (nwF (cAt ts r) ts.length : Int)) S := by
  have src : iEnum1 (eVar 0) (nwFr ts r (some (.int 0)) none none) S = .ok (.enum (.fix (ts.map tabD))) S := rfl
  have go : ∃ p3 p4, sFor (.tp [(.nm 3), (.nm 4)]) (iEnum1 (eVar 0)) nwB (nwFr ts r (some (.int 0)) none none) S = .nx (nwFr ts r (some (.int (nwF (cAt ts r) ts.length : Int))) p3 p4) S := by
    refine sFor_inv (its := ((ts.map tabD).zipIdx).map fun p => D.tup [.int (p.2 : Int), p.1])
      (fun i ρ X => ∃ p3 p4, ρ = nwFr ts r (some (.int (nwF (cAt ts r) i : Int))) p3 p4 ∧ X = S)
      (fun q => ∃ p3 p4, q = .nx (nwFr ts r (some (.int (nwF (cAt ts r) ts.length : Int))) p3 p4) S) src rfl ⟨_, _, rfl, rfl⟩ ?_ ?_
    · rintro i d ρ X hd ⟨p3, p4, rfl, rfl⟩
      have hi : i < ts.length := by
        have := (List.getElem?_eq_some_iff.mp hd).1
        rw [List.length_map, List.length_zipIdx, List.length_map] at this
        exact this
      rw [List.getElem?_map, List.getElem?_zipIdx, List.getElem?_map, List.getElem?_eq_getElem hi] at hd
      have hd := Option.some.inj hd
      have ed : d = .tup [.int (i : Int), tabD (ts.getD i ([], []))] := by
        rw [← hd, List.getD_eq_getElem?_getD, List.getElem?_eq_getElem hi]; simp
      subst ed
      have hf : nwF (cAt ts r) i < ts.length := by
        cases i with
        | zero => exact h0
        | succ i => have := nwF_lt (c := cAt ts r) (n := i + 1) (by omega); omega
      have test : bCmp .Gt (eIx (eIx (eVar 4) (eC (.int 0))) (eVar 1)) (eIx (eIx (eIx (eVar 0) (eVar 2)) (eC (.int 0))) (eVar 1)) (nwFr ts r (some (.int (nwF (cAt ts r) i : Int))) (some (.int (i : Int))) (some (tabD (ts.getD i ([], []))))) X = .ok (decide (cAt ts r i > cAt ts r (nwF (cAt ts r) i))) X :=
        y_cmpK (x_ixK (x_ixK (x_var rfl) x_c ix0) (x_var rfl) (ix_cnt hts hi hr)) (x_ixK (x_ixK (x_ixK (x_var rfl) (x_var rfl) (ix_tab hf)) x_c ix0) (x_var rfl) (ix_cnt hts hf hr)) gt_int
      refine ⟨nwFr ts r (some (.int (nwF (cAt ts r) i : Int))) (some (.int (i : Int))) (some (tabD (ts.getD i ([], [])))), rfl, ?_⟩
      by_cases c : cAt ts r i > cAt ts r (nwF (cAt ts r) i)
      · rw [decide_eq_true c] at test
        have e : nwB (nwFr ts r (some (.int (nwF (cAt ts r) i : Int))) (some (.int (i : Int))) (some (tabD (ts.getD i ([], []))))) X = .nx (nwFr ts r (some (.int (i : Int))) (some (.int (i : Int))) (some (tabD (ts.getD i ([], []))))) X := s_ifT test (s_set (x_var rfl))
        rw [e]
        refine ⟨some (.int (i : Int)), some (tabD (ts.getD i ([], []))), ?_, rfl⟩
        rw [nwF, if_pos c]
      · rw [decide_eq_false c] at test
        have e : nwB (nwFr ts r (some (.int (nwF (cAt ts r) i : Int))) (some (.int (i : Int))) (some (tabD (ts.getD i ([], []))))) X = .nx (nwFr ts r (some (.int (nwF (cAt ts r) i : Int))) (some (.int (i : Int))) (some (tabD (ts.getD i ([], []))))) X := s_ifF test rfl
        rw [e]
        refine ⟨some (.int (i : Int)), some (tabD (ts.getD i ([], []))), ?_, rfl⟩
        rw [nwF, if_neg c]
    · rintro ρ X ⟨p3, p4, rfl, rfl⟩
      rw [List.length_map, List.length_zipIdx, List.length_map]
      exact ⟨_, _, rfl⟩
  obtain ⟨p3, p4, e⟩ := go
  refine fn_pure w rfl ?_ rfl
  show M.m_newest_in [some (.tup (ts.map tabD)), some (.int (r : Int)), none, none, none] S = _
  exact s_seqN (s_set x_c) (s_seqN e (s_ret (x_var rfl)))
end
end A1
end
section
set_option Elab.async false
set_option linter.all false
set_option maxRecDepth 100000
set_option maxHeartbeats 4000000
set_option autoImplicit false
/-! plain: the program's tables meet -/
namespace A1
open PySem PL
section
variable {S : Sto}
def fAt (ts : List Tab) (r : Nat) : Nat := nwF (cAt ts r) ts.length
def ckT (many : Nat) (pl : List Int) (ts : List Tab) : List Nat := (List.range many).map fun (r : Nat) => cAt ts r (fAt ts r) + if (r : Int) ∈ pl then 1 else 0
def rwT (many : Nat) (pl : List Int) (ts : List Tab) (r : Nat) : List Nat := if (r : Int) ∈ pl then ckT many pl ts else (ts.getD (fAt ts r) ([], [])).2.getD r []
def metT (many : Nat) (pl : List Int) (ts : List Tab) : Tab := (ckT many pl ts, (List.range many).map (rwT many pl ts))
abbrev mtF (many : Nat) (pl : List Int) (ts : List Tab) (o3 o4 o5 o6 : Option D) : Fr := [some (.int (many : Int)), some (placeD pl), some (.tup (ts.map tabD)), o3, o4, o5, o6]
def hdD (many : Nat) (ts : List Tab) : D := .lst ((List.range many).map fun r => tabD (ts.getD (fAt ts r) ([], [])))
theorem in_intsE {i : Int} {p : List Int} : cmpD .In (.int i) (placeD p) S = .ok (.bl (decide (i ∈ p))) S := by unfold cmpD; rw [in_ints]; rfl
theorem ix_hd {many r : Nat} {ts : List Tab} (hr : r < many) : ixD (hdD many ts) (.int (r : Int)) S = .ok (tabD (ts.getD (fAt ts r) ([], []))) S := ix_nat (xs := (List.range many).map fun r => tabD (ts.getD (fAt ts r) ([], []))) rfl (by rw [List.getElem?_map, List.getElem?_range hr]; rfl)
theorem met_in_ok (w : WF S) {many : Nat} (hm : many ≤ 100) {pl : List Int} {ts : List Tab} (h0 : 0 < ts.length) (h5 : ts.length ≤ 100) (hts : ∀ t ∈ ts, TabOk many t) : M.f_met_in [.int (many : Int), placeD pl, .tup (ts.map tabD)] S = .ok (tabD (metT many pl ts)) S := by
  have fl : ∀ r, fAt ts r < ts.length := fun r => nwF_lt h0
  have tm : ∀ r, ts.getD (fAt ts r) ([], []) ∈ ts := fun r => by rw [List.getD_eq_getElem?_getD, List.getElem?_eq_getElem (fl r)]; exact List.getElem_mem _
  have lr : (List.range many).length ≤ 10000 := by rw [List.length_range]; omega
  have l1 : lLC (.nm 6) (iRange1 (eVar 0)) bYes (eIx (eVar 2) (eCallD M.f_newest_in [] (aCons (eVar 2) (aCons (eVar 6) aNil)))) [6] (mtF many pl ts none none none none) S = .ok ((List.range many).map fun r => tabD (ts.getD (fAt ts r) ([], []))) S := by
    refine lLC_all (s := .one (.fix (rangeD 0 many))) (e := fun (k : Nat) => D.int (0 + (k : Int))) (fun r => tabD (ts.getD (fAt ts r) ([], []))) (i_range (x_var rfl) (range1_ok (by omega))) rfl lr fun r hr => ?_
    have hr := List.mem_range.mp hr
    refine ⟨mtF many pl ts none none none (some (.int (r : Int))), by rw [Int.zero_add]; rfl, x_ixK (x_var rfl) (x_call (x_cons (x_var rfl) (x_cons (x_var rfl) x_nil)) (newest_ok w h0 h5 hts hr)) (ix_tab (fl r))⟩
  have l2 : lLC (.nm 6) (iRange1 (eVar 0)) bYes (eBin .Add (eIx (eIx (eIx (eVar 3) (eVar 6)) (eC (.int 0))) (eVar 6)) (eBf intD (aCons (eCmp .In (eVar 6) (eVar 1)) aNil))) [6] (mtF many pl ts (some (hdD many ts)) none none none) S = .ok ((ckT many pl ts).map fun (n : Nat) => D.int (n : Int)) S := by
    have := lLC_all (S := S) (T := .nm 6) (it := iRange1 (eVar 0)) (f := eBin .Add (eIx (eIx (eIx (eVar 3) (eVar 6)) (eC (.int 0))) (eVar 6)) (eBf intD (aCons (eCmp .In (eVar 6) (eVar 1)) aNil))) (vs := [6]) (ρ := mtF many pl ts (some (hdD many ts)) none none none) (s := .one (.fix (rangeD 0 many))) (xs := List.range many) (e := fun (k : Nat) => D.int (0 + (k : Int))) (fun (r : Nat) => D.int ((cAt ts r (fAt ts r) + if (r : Int) ∈ pl then 1 else 0 : Nat) : Int)) (i_range (x_var rfl) (range1_ok (by omega))) rfl lr fun r hr => by
      have hr := List.mem_range.mp hr
      refine ⟨mtF many pl ts (some (hdD many ts)) none none (some (.int (r : Int))), by rw [Int.zero_add]; rfl, ?_⟩
      have e := x_binK (x_ixK (x_ixK (x_ixK (x_var (S := S) (ρ := mtF many pl ts (some (hdD many ts)) none none (some (.int (r : Int)))) (i := 3) rfl) (x_var (i := 6) rfl) (ix_hd hr)) (x_c (d := .int 0)) ix0) (x_var (i := 6) rfl) (ix_cnt hts (fl r) hr)) (x_bf (fn := intD) (x_cons (x_cmpK (x_var (i := 6) rfl) (x_var (i := 1) rfl) in_intsE) x_nil) rfl) add_ok
      have v : ((cAt ts r (fAt ts r) : Int) + (if decide ((r : Int) ∈ pl) = true then (1 : Int) else 0)) = ((cAt ts r (fAt ts r) + if (r : Int) ∈ pl then 1 else 0 : Nat) : Int) := by
        by_cases c : (r : Int) ∈ pl
        · rw [decide_eq_true c, if_pos rfl, if_pos c]; omega
        · rw [decide_eq_false c, if_neg Bool.false_ne_true, if_neg c]; omega
      rw [v] at e
      exact e
    rw [this]
    unfold ckT
    rw [List.map_map]
    rfl
  have l3 : lLC (.nm 6) (iRange1 (eVar 0)) bYes (eIf (bCmp .In (eVar 6) (eVar 1)) (eVar 4) (eIx (eIx (eIx (eVar 3) (eVar 6)) (eC (.int 1))) (eVar 6))) [6] (mtF many pl ts (some (hdD many ts)) (some (cntsD (ckT many pl ts))) none none) S = .ok ((List.range many).map fun r => cntsD (rwT many pl ts r)) S := by
    refine lLC_all (s := .one (.fix (rangeD 0 many))) (e := fun (k : Nat) => D.int (0 + (k : Int))) (fun r => cntsD (rwT many pl ts r)) (i_range (x_var rfl) (range1_ok (by omega))) rfl lr fun r hr => ?_
    have hr := List.mem_range.mp hr
    refine ⟨mtF many pl ts (some (hdD many ts)) (some (cntsD (ckT many pl ts))) none (some (.int (r : Int))), by rw [Int.zero_add]; rfl, ?_⟩
    by_cases c : (r : Int) ∈ pl
    · refine x_ifT (y_cmpK (x_var rfl) (x_var rfl) (in_ints.trans (by rw [decide_eq_true c]))) ?_
      rw [x_var rfl]
      unfold rwT
      rw [if_pos c]
    · refine x_ifF (y_cmpK (x_var rfl) (x_var rfl) (in_ints.trans (by rw [decide_eq_false c]))) (x_ixK (x_ixK (x_ixK (x_var rfl) (x_var rfl) (ix_hd hr)) x_c ix1) (x_var rfl) ?_)
      have hb := (hts _ (tm r)).b
      refine ix_nat (xs := (ts.getD (fAt ts r) ([], [])).2.map cntsD) rfl ?_
      unfold rwT
      rw [if_neg c, List.getElem?_map, List.getD_eq_getElem?_getD (l := (ts.getD (fAt ts r) ([], [])).2), List.getElem?_eq_getElem (show r < (ts.getD (fAt ts r) ([], [])).2.length by omega)]
      rfl
  refine fn_pure w rfl ?_ low_tab
  show M.m_met_in [some (.int (many : Int)), some (placeD pl), some (.tup (ts.map tabD)), none, none, none, none] S = _
  have two : 2 ≤ sizeLine := Nat.le_trans (show 2 ≤ 10000 by decide) (by decide)
  refine s_seqN (s_set (d := hdD many ts) (x_fix (x_nLst l1))) (s_seqN (s_set (d := cntsD (ckT many pl ts)) (x_bf (x_cons (x_fix (x_nLst l2)) x_nil) tup_lst)) (s_seqN (s_set (x_fix (x_nLst l3))) (s_ret ?_)))
  have ed : tabD (metT many pl ts) = .tup [cntsD (ckT many pl ts), .tup ((List.range many).map fun r => cntsD (rwT many pl ts r))] := by
    unfold tabD metT
    simp only [List.map_map]
    rfl
  rw [ed]
  exact x_tup (x_cons (x_var rfl) (x_cons (x_bf (x_cons (x_var rfl) x_nil) tup_lst) x_nil)) two
end
end A1
end
section
set_option Elab.async false
set_option linter.all false
set_option maxRecDepth 100000
set_option maxHeartbeats 4000000
set_option autoImplicit false
/-! plain: what the tables that meet tell -/
namespace A1
open PySem PL
section
variable {S : Sto}
def given (A : Alph) (w : List Str) (z : Str) : List Tab := (plc A z).map fun p => tab A w p.toNat
theorem given_at {A : Alph} {w : List Str} {z : Str} {j : Nat} (hj : j < (plc A z).length) : (given A w z).getD j ([], []) = tab A w ((plc A z).getD j 0).toNat := by
  unfold given
  rw [List.getD_eq_getElem?_getD, List.getElem?_map, List.getD_eq_getElem?_getD, List.getElem?_eq_getElem hj]; rfl
theorem tab_cnt {A : Alph} {w : List Str} {q r : Nat} (hr : r < A.many) : (tab A w q).1.getD r 0 = (evs A w (vw A w q) r).length := by
  show (cntL A w (vw A w q)).getD r 0 = _
  unfold cntL
  rw [List.getD_eq_getElem?_getD, List.getElem?_map, List.getElem?_range hr]; rfl
theorem tab_row {A : Alph} {w : List Str} {q r : Nat} (hr : r < A.many) : (tab A w q).2.getD r [] = cntL A w (ofL A w (lastN A w (vw A w q) r)) := by
  show ((List.range A.many).map fun r => cntL A w (ofL A w (lastN A w (vw A w q) r))).getD r [] = _
  rw [List.getD_eq_getElem?_getD, List.getElem?_map, List.getElem?_range hr]; rfl
theorem met_tab {A : Alph} (h : AlphOk A) {w : List Str} {z : Str} (hz : z ∈ letters A) {q : Nat} (hq : (q : Int) ∈ plc A z) : metT A.many (plc A z) (given A w z) = tab A (w ++ [z]) q := by
  have ln : (given A w z).length = (plc A z).length := List.length_map _
  have l0 : 0 < (plc A z).length := by
    have := plc_ne h hz
    cases e : plc A z with
    | nil => exact absurd e this
    | cons a b => simp
  have fl : ∀ r, fAt (given A w z) r < (plc A z).length := fun r => by rw [← ln]; exact nwF_lt (by omega)
  have mem : ∀ j, j < (plc A z).length → (((((plc A z).getD j 0).toNat : Nat)) : Int) ∈ plc A z := fun j hj => by
    have e : (plc A z).getD j 0 = (plc A z)[j] := by rw [List.getD_eq_getElem?_getD, List.getElem?_eq_getElem hj]; rfl
    have hm : (plc A z)[j] ∈ plc A z := List.getElem_mem hj
    rw [e, Int.toNat_of_nonneg (plc_in h hz _ hm).1]
    exact hm
  have ca : ∀ r j, r < A.many → j < (plc A z).length → cAt (given A w z) r j = (evs A w (vw A w ((plc A z).getD j 0).toNat) r).length := fun r j hr hj => by
    unfold cAt
    rw [given_at hj, tab_cnt hr]
  have tn := tab_new h hz hq (w := w) (fun r => ((plc A z).getD (fAt (given A w z) r) 0).toNat) fun r hr => ⟨mem _ (fl r), fun q hq => by
    obtain ⟨j, hj, e⟩ := List.getElem_of_mem hq
    have e2 : ((plc A z).getD j 0).toNat = q := by rw [List.getD_eq_getElem?_getD, List.getElem?_eq_getElem hj, Option.getD_some, e]; rfl
    have mx := nwF_max (c := cAt (given A w z) r) (n := (given A w z).length) (j := j) (by omega)
    rw [ca r j hr hj, e2] at mx
    have := ca r _ hr (fl r)
    unfold fAt at this ⊢
    omega⟩
  rw [tn]
  have c1 : ckT A.many (plc A z) (given A w z) = (List.range A.many).map fun (r : Nat) => (evs A w (vw A w ((plc A z).getD (fAt (given A w z) r) 0).toNat) r).length + if (r : Int) ∈ plc A z then 1 else 0 := by
    unfold ckT
    refine List.map_congr_left fun r hr => ?_
    rw [ca r _ (List.mem_range.mp hr) (fl r)]
  unfold metT
  rw [c1]
  congr 1
  refine List.map_congr_left fun r hr => ?_
  have hr := List.mem_range.mp hr
  unfold rwT
  by_cases c : (r : Int) ∈ plc A z
  · rw [if_pos c, if_pos c, c1]
  · rw [if_neg c, if_neg c, given_at (fl r), tab_row hr]
/-! the program's functions -/
theorem rep_one {d : D} {n : Nat} (h1 : 1 ≤ n) (h5 : n ≤ 5) : binD .Mult (.tup [d]) (.int (n : Int)) S = .ok (.tup ((List.range n).map fun _ => d)) S := by
  have rep : ∀ n : Nat, (List.replicate n [d]).flatten = (List.range n).map fun _ => d := fun n => by
    induction n with
    | zero => rfl
    | succ n ih => rw [List.replicate_succ', List.flatten_append, ih, List.range_succ, List.map_append]; rfl
  show (if (n : Int) = 1 then Res.ok (D.tup [d]) S else if [d] ≠ [] ∧ 2 ≤ (n : Int) ∧ (n : Int) ≤ 1000 ∧ [d].length ≤ 1000 then Res.ok (D.tup (List.replicate (n : Int).toNat [d]).flatten) S else .bad) = _
  by_cases c : n = 1
  · rw [if_pos (by omega), c]; rfl
  · rw [if_neg (by omega), if_pos ⟨by simp, by omega, by omega, by simp⟩, Int.toNat_natCast, rep]
theorem tab_nil {A : Alph} {q : Nat} : tab A [] q = ((List.range A.many).map fun _ => 0, (List.range A.many).map fun _ => (List.range A.many).map fun _ => 0) := rfl
theorem first_ok (w : WF S) {A : Alph} (h : AlphOk A) (q : Nat) : M.f_first_table [A.d] S = .ok (tabD (tab A [] q)) S := by
  have m1 := h.m1
  have m5 := h.m5
  have two : 2 ≤ sizeLine := Nat.le_trans (show 2 ≤ 10000 by decide) (by decide)
  have one : 1 ≤ sizeLine := Nat.le_trans (show 1 ≤ 10000 by decide) (by decide)
  have z1 : cntsD ((List.range A.many).map fun _ => 0) = .tup ((List.range A.many).map fun _ => D.int 0) := by unfold cntsD; rw [List.map_map]; rfl
  have zt : M.f_zero_table [.int (A.many : Int)] S = .ok (tabD (tab A [] q)) S := by
    refine fn_pure w rfl ?_ low_tab
    show M.m_zero_table [some (.int (A.many : Int)), none] S = _
    refine s_seqN (s_set (x_binK (x_tup (x_cons x_c x_nil) one) (x_var rfl) (rep_one m1 m5))) (s_ret ?_)
    rw [tab_nil]
    unfold tabD
    rw [List.map_map, z1]
    refine (x_tup (x_cons (x_var rfl) (x_cons (x_binK (x_tup (x_cons (x_var rfl) x_nil) one) (x_var rfl) (rep_one m1 m5)) x_nil)) two).trans ?_
    rw [show (cntsD ∘ fun _ : Nat => (List.range A.many).map fun _ => 0) = fun _ => D.tup ((List.range A.many).map fun _ => D.int 0) from funext fun _ => z1]
  refine fn_pure w rfl ?_ low_tab
  show M.m_first_table [some A.d] S = _
  exact s_seqN (s_expr (x_call (x_cons (x_var rfl) x_nil) (require_alphabet_ok w h))) (s_ret (x_call (x_cons (x_ixK (x_var rfl) x_c ixA0) x_nil) zt))
theorem require_letter_ok (w : WF S) {A : Alph} (h : AlphOk A) {z : Str} (hz : z ∈ letters A) : M.f_require_letter [A.d, .str z] S = .ok .non S := by
  have il : M.f_is_letter_in [A.d, .str z] S = .ok (.bl true) S := by
    refine fn_pure w rfl ?_ rfl
    show M.m_is_letter_in [some A.d, some (.str z)] S = _
    refine s_ret (x_and (b := true) (x_bf (x_cons (x_var rfl) (x_cons x_c x_nil)) rfl) (fun _ => ?_) (fun q => by cases q))
    refine x_cmpK (x_var rfl) (x_call (x_cons (x_var rfl) x_nil) (letters_in_ok w h)) ?_
    rw [in_strsD, decide_eq_true hz]
  refine fn_pureN w rfl (ρ := [some A.d, some (.str z)]) ?_
  show M.m_require_letter [some A.d, some (.str z)] S = _
  exact s_ifF (y_not (y_val (x_call (x_cons (x_var rfl) (x_cons (x_var rfl) x_nil)) il))) rfl
theorem place_in_ok (w : WF S) {A : Alph} (h : AlphOk A) {z : Str} (hz : z ∈ letters A) : M.f_place_in [A.d, .str z] S = .ok (placeD (plc A z)) S := by
  refine fn_pure w rfl ?_ (low_place _ _)
  show M.m_place_in [some A.d, some (.str z)] S = _
  exact s_ret (x_ixK (x_call (x_cons (x_var rfl) x_nil) (places_in_ok w h)) (x_var rfl) (place_plc h hz))
theorem met_ok (wf : WF S) {A : Alph} (h : AlphOk A) {w : List Str} {z : Str} (hz : z ∈ letters A) {q : Nat} (hq : (q : Int) ∈ plc A z) : M.f_met_tables [A.d, .str z, .tup ((given A w z).map tabD)] S = .ok (tabD (tab A (w ++ [z]) q)) S := by
  have m5 := h.m5
  have ln : (given A w z).length = (plc A z).length := List.length_map _
  have lp := plc_len h hz
  have l0 : 0 < (plc A z).length := by
    have := plc_ne h hz
    cases e : plc A z with
    | nil => exact absurd e this
    | cons a b => simp
  have hts : ∀ t ∈ given A w z, TabOk A.many t := fun t ht => by
    obtain ⟨p, _, rfl⟩ := List.mem_map.mp ht
    exact tab_ok
  have mi := met_in_ok wf (many := A.many) (by omega) (pl := plc A z) (ts := given A w z) (by omega) (by omega) hts
  rw [met_tab h hz hq] at mi
  have two : 2 ≤ sizeLine := Nat.le_trans (show 2 ≤ 10000 by decide) (by decide)
  let F : Option D → Option D → Option D → Fr := fun o3 o4 o5 => [some A.d, some (.str z), some (.tup ((given A w z).map tabD)), o3, o4, o5]
  have lt : lenD [.tup ((given A w z).map tabD)] S = .ok (.int (plc A z).length) S := by
    show Res.ok (D.int (((given A w z).map tabD).length : Int)) S = _
    rw [List.length_map, ln]
  have lpl : lenD [placeD (plc A z)] S = .ok (.int (plc A z).length) S := by
    show Res.ok (D.int (((plc A z).map D.int).length : Int)) S = _
    rw [List.length_map]
  have ne : cmpR .NotEq (.int (plc A z).length) (.int (plc A z).length) S = .ok false S := by simp [cmpR, cmpS, eqS, toPyN, PyData.eqv]
  have ty : isiD [.tup ((given A w z).map tabD), .ty "tuple"] S = .ok (.bl true) S := rfl
  have lc : lLC (.nm 5) (iOf (eVar 2)) bYes (eCallD M.f_is_table_in [] (aCons (eVar 3) (aCons (eVar 5) aNil))) [5] (F (some (.int (A.many : Int))) (some (placeD (plc A z))) none) S = .ok (tts ((given A w z).map tabD).length) S := by
    refine lLC_tt (s := .one (.fix ((given A w z).map tabD))) (i_of (x_var rfl) rfl) rfl (by rw [List.length_map]; omega) fun d hd => ?_
    obtain ⟨t, ht, rfl⟩ := List.mem_map.mp hd
    exact ⟨F (some (.int (A.many : Int))) (some (placeD (plc A z))) (some (tabD t)), rfl, x_call (x_cons (x_var rfl) (x_cons (x_var rfl) x_nil)) (is_table_ok wf (by omega) (hts t ht))⟩
  refine fn_pure wf rfl ?_ low_tab
  show M.m_met_tables (F none none none) S = _
  refine s_seqN (s_expr (x_call (x_cons (x_var rfl) x_nil) (require_alphabet_ok wf h))) (s_seqN (s_expr (x_call (x_cons (x_var rfl) (x_cons (x_var rfl) x_nil)) (require_letter_ok wf h hz))) (s_seqN (ρ1 := F (some (.int (A.many : Int))) (some (placeD (plc A z))) none) (S1 := S) ?_ ?_))
  · have tp := x_tup (ρ := F none none none) (S := S) (x_cons (x_ixK (x_var (i := 0) rfl) (x_c (d := .int 0)) ixA0) (x_cons (x_call (fn := M.f_place_in) (x_cons (x_var (i := 0) rfl) (x_cons (x_var (i := 1) rfl) x_nil)) (place_in_ok wf h hz)) x_nil)) two
    unfold sAsg
    rw [tp]
    rfl
  · exact s_seqN (s_ifF (y_orF (y_not (y_val (x_bf (x_cons (x_var rfl) (x_cons x_c x_nil)) ty))) (y_cmpK (x_bf (x_cons (x_var rfl) x_nil) lt) (x_bf (x_cons (x_var rfl) x_nil) lpl) ne)) rfl)
      (s_seqN (s_ifF (y_not (y_val (x_bf (x_cons (x_fix (x_nLst lc)) x_nil) (all_tts _)))) rfl) (s_ret (x_call (x_cons (x_var rfl) (x_cons (x_var rfl) (x_cons (x_var rfl) x_nil))) mi)))
end
end A1
end
section
set_option Elab.async false
set_option linter.all false
set_option maxRecDepth 100000
set_option maxHeartbeats 4000000
set_option autoImplicit false
/-! plain: the law's look at a word -/
namespace A1
open PySem PL
mutual
theorem eqv_pd : ∀ d : D, PyData.eqv (pd d) (pd d) = true
  | .non => by simp [pd, PyData.eqv]
  | .bl b => by simp [pd, PyData.eqv]
  | .int i => by simp [pd, PyData.eqv]
  | .str x => by simp [pd, PyData.eqv]
  | .tup xs => by simp only [pd, PyData.eqv]; exact eqv_pdL xs
  | .lst xs => by simp only [pd, PyData.eqv]; exact eqv_pdL xs
  | .scr xs => by simp only [pd, PyData.eqv]; exact eqv_pdL xs
  | .dct _ _ => by simp [pd, PyData.eqv]
  | .ins _ _ => by simp [pd, PyData.eqv]
  | .ref _ => by simp [pd, PyData.eqv]
  | .glo _ => by simp [pd, PyData.eqv]
  | .ty _ => by simp [pd, PyData.eqv]
theorem eqv_pdL : ∀ xs : List D, PyData.eqvAll (pdL xs) (pdL xs) = true
  | [] => by simp [pdL, PyData.eqvAll]
  | x :: xs => by simp only [pdL, PyData.eqvAll, eqv_pd x, eqv_pdL xs]; rfl
end
section
variable {S : Sto}
theorem ne_nice {d : D} (h : nice 10 d) : cmpR .NotEq d d S = .ok false S := by
  have e := eq_nice (S := S) h h
  rw [eqv_pd] at e
  unfold cmpR cmpS
  simp only [e]
  rfl
theorem cut_take {α : Type} {xs : List α} {k : Nat} (hk : k ≤ xs.length) : cutD xs none (some (k : Int)) = xs.take k := by
  unfold cutD
  rw [HT.sIx_none, HT.sIx_nat, Nat.min_eq_left hk, List.drop_zero, Nat.sub_zero]
theorem take_word {A : Alph} {x : List Str} (hx : IsWord A x) (i : Nat) : IsWord A (x.take i) := ⟨by have := hx.1; rw [List.length_take]; omega, fun z hz => hx.2 z (List.mem_of_mem_take hz)⟩
theorem small_nat {n : Nat} (h : n ≤ 1000) : ((n : Nat) : Int).natAbs < 10 ^ 12 := Nat.lt_trans (show ((n : Nat) : Int).natAbs < 1001 by omega) (by decide)
theorem cnts_nice {l : List Nat} (h : ∀ n ∈ l, n ≤ 1000) (hl : l.length ≤ 5) (n : Nat) : nice (n + 1) (cntsD l) ∧ wt (cntsD l) ≤ 210 := by
  refine ⟨?_, ?_⟩
  · unfold cntsD
    simp only [nice]
    exact niceL_map fun k hk => nice_int (small_nat (h k hk))
  · unfold cntsD
    rw [wt_tup]
    have := wtL_map (f := fun (k : Nat) => D.int (k : Int)) (b := 41) fun k hk => wt_int (small_nat (h k hk))
    have : l.length * (41 + 1) ≤ 5 * 42 := Nat.mul_le_mul hl (Nat.le_refl _)
    omega
theorem cntL_le {A : Alph} {x : List Str} {P : Nat → Bool} (hx : x.length ≤ 200) : ∀ n ∈ cntL A x P, n ≤ 1000 := fun n hn => by
  obtain ⟨r, _, rfl⟩ := List.mem_map.mp hn
  have : (evs A x P r).length ≤ x.length := by
    unfold evs
    have := List.length_filter_le (fun k => P k && ev A x r k) (List.range x.length)
    rw [List.length_range] at this; exact this
  omega
theorem tab_nice {A : Alph} (h : AlphOk A) {x : List Str} (hx : x.length ≤ 200) (q n : Nat) : nice (n + 3) (tabD (tab A x q)) ∧ wt (tabD (tab A x q)) ≤ 1300 := by
  have m5 := h.m5
  have cl : ∀ P, (cntL A x P).length ≤ 5 := fun P => by unfold cntL; rw [List.length_map, List.length_range]; exact m5
  obtain ⟨a1, a2⟩ := cnts_nice (cntL_le (A := A) (P := vw A x q) hx) (cl _) (n + 1)
  have rows : ∀ l ∈ (tab A x q).2, nice (n + 1) (cntsD l) ∧ wt (cntsD l) ≤ 210 := fun l hl => by
    obtain ⟨r, _, rfl⟩ := List.mem_map.mp hl
    exact cnts_nice (cntL_le hx) (cl _) n
  refine ⟨?_, ?_⟩
  · unfold tabD
    simp only [nice, niceL]
    exact ⟨a1, niceL_map fun l hl => (rows l hl).1, trivial⟩
  · unfold tabD
    rw [wt_tup, wtL_cons, wtL_cons, wtL_nil, wt_tup]
    have := wtL_map (f := cntsD) (b := 210) fun l hl => (rows l hl).2
    have lb : (tab A x q).2.length = A.many := tab_ok.b
    have : (tab A x q).2.length * (210 + 1) ≤ 5 * 211 := Nat.mul_le_mul (by omega) (Nat.le_refl _)
    have a2 : wt (cntsD (tab A x q).1) ≤ 210 := a2
    omega
theorem given_nice {A : Alph} (h : AlphOk A) {w : List Str} (hw : w.length ≤ 200) {z : Str} (hz : z ∈ letters A) : nice 10 (.tup ((given A w z).map tabD)) ∧ wt (.tup ((given A w z).map tabD)) ≤ 2 ^ 20 := by
  have each : ∀ t ∈ given A w z, nice 9 (tabD t) ∧ wt (tabD t) ≤ 1300 := fun t ht => by
    obtain ⟨p, _, rfl⟩ := List.mem_map.mp ht
    exact tab_nice h hw _ 6
  refine ⟨?_, ?_⟩
  · simp only [nice]
    exact niceL_map fun t ht => (each t ht).1
  · rw [wt_tup]
    have := wtL_map (f := tabD) (b := 1300) fun t ht => (each t ht).2
    have lp := plc_len h hz
    have : (given A w z).length * (1300 + 1) ≤ 5 * 1301 := Nat.mul_le_mul (by unfold given; rw [List.length_map]; exact lp) (Nat.le_refl _)
    exact Nat.le_trans (show _ ≤ 7000 by omega) (by decide)
def tabsD (A : Alph) (w : List Str) : List D := (List.range A.many).map fun q => tabD (tab A w q)
theorem rep_gen {d : D} {n : Nat} (h5 : n ≤ 5) : repOb [d] (.int (n : Int)) S = .ok (.lst ((List.range n).map fun _ => d)) S := by
  have fl : ∀ n : Nat, (List.replicate n [d]).flatten = (List.range n).map fun _ : Nat => d := fun n => by
    induction n with
    | zero => rfl
    | succ n ih => rw [List.replicate_succ', List.flatten_append, ih, List.range_succ, List.map_append]; rfl
  have c : -(2 ^ 63) ≤ (n : Int) ∧ (n : Int) < 2 ^ 63 ∧ lenFits ([d].length * (n : Int).toNat) = true := ⟨by omega, by omega, fits_le (by rw [List.length_singleton, Int.toNat_natCast]; omega)⟩
  unfold repOb
  simp only [if_pos c]
  rw [Int.toNat_natCast, fl]
abbrev rtF (A : Alph) (x : List Str) (l : Nat) (o4 o5 o6 o7 o8 o9 : Option D) : Fr := [some A.d, some (wordD x), some (.dct false (placesD A.rows)), some (.ref l), o4, o5, o6, o7, o8, o9]
abbrev rtP : St' := sFor (.nm 9) (iOf (eIx (eVar 2) (eVar 5))) (sPut (eVar 3) (eVar 9) (eVar 8))
abbrev rtB : St' := sSeq (sSet (.nm 6) (eBf tupleD (aCons (eFixN (nLst (lLC (.nm 9) (iOf (eIx (eVar 2) (eVar 5))) bYes (eIx (eVar 3) (eVar 9)) [9]))) aNil))) (sSeq (sSet (.nm 7) (eBf reprD (aCons (eVar 6) aNil))) (sSeq (sSet (.nm 8) (eCallD M.f_met_tables [] (aCons (eVar 0) (aCons (eVar 5) (aCons (eVar 6) aNil))))) (sSeq (sIf (bOr (bCmp .NotEq (eBf reprD (aCons (eVar 6) aNil)) (eVar 7)) (bCmp .NotEq (eBf reprD (aCons (eCallD M.f_met_tables [] (aCons (eVar 0) (aCons (eVar 5) (aCons (eVar 6) aNil)))) aNil)) (eBf reprD (aCons (eVar 8) aNil)))) (sRet (eC (.bl false))) sNext) (sSeq (sIf (bCmp .NotEq (eBf reprD (aCons (eVar 8) aNil)) (eBf reprD (aCons (eCallD M.f_law_table [] (aCons (eVar 0) (aCons (eSl (eVar 1) oNone (oSome (eBin .Add (eVar 4) (eC (.int 1))))) (aCons (eIx (eIx (eVar 2) (eVar 5)) (eC (.int 0))) aNil)))) aNil))) (sRet (eC (.bl false))) sNext) rtP))))
def upT (A : Alph) (w : List Str) (z : Str) (j : Nat) : List D := (List.range A.many).map fun (q : Nat) => tabD (if (q : Int) ∈ (plc A z).take j then tab A (w ++ [z]) q else tab A w q)
/-- the tables of those that met are put -/
theorem put_tabs {A : Alph} (h : AlphOk A) {x w : List Str} {z : Str} (hz : z ∈ letters A) {q0 : Nat} (hq0 : (q0 : Int) ∈ plc A z) (o4 o6 o7 o9 : Option D) :
    ∃ p9, rtP (rtF A x S.length o4 (some (.str z)) o6 o7 (some (tabD (tab A (w ++ [z]) q0))) o9) (S ++ [.lst (tabsD A w)]) = .nx (rtF A x S.length o4 (some (.str z)) o6 o7 (some (tabD (tab A (w ++ [z]) q0))) p9) (S ++ [.lst (tabsD A (w ++ [z]))]) := by
  have same : ∀ q : Nat, (q : Int) ∈ plc A z → tab A (w ++ [z]) q = tab A (w ++ [z]) q0 := fun q hq => (met_tab h hz hq).symm.trans (met_tab h hz hq0)
  have src : iOf (eIx (eVar 2) (eVar 5)) (rtF A x S.length o4 (some (.str z)) o6 o7 (some (tabD (tab A (w ++ [z]) q0))) o9) (S ++ [.lst (tabsD A w)]) = .ok (.one (.fix ((plc A z).map D.int))) (S ++ [.lst (tabsD A w)]) := i_of (x_ixK (x_var rfl) (x_var rfl) (place_plc h hz)) rfl
  have h0 : S ++ [Ob.lst (tabsD A w)] = S ++ [.lst (upT A w z 0)] := by
    have : tabsD A w = upT A w z 0 := by
      unfold tabsD upT
      refine List.map_congr_left fun q _ => ?_
      rw [List.take_zero, if_neg (by simp)]
    rw [this]
  refine sFor_inv
    (fun j ρ X => ∃ p9, ρ = rtF A x S.length o4 (some (.str z)) o6 o7 (some (tabD (tab A (w ++ [z]) q0))) p9 ∧ X = S ++ [.lst (upT A w z j)])
    (fun r => ∃ p9, r = .nx (rtF A x S.length o4 (some (.str z)) o6 o7 (some (tabD (tab A (w ++ [z]) q0))) p9) (S ++ [.lst (tabsD A (w ++ [z]))])) src (items_fix _) ⟨o9, rfl, h0⟩ ?_ ?_
  · rintro j d ρ X hd ⟨p9, rfl, rfl⟩
    rw [List.getElem?_map] at hd
    cases hp : (plc A z)[j]? with
    | none => rw [hp] at hd; cases hd
    | some p =>
      rw [hp] at hd
      obtain rfl := Option.some.inj hd
      have hm := List.mem_of_getElem? hp
      obtain ⟨k1, k2⟩ := plc_in h hz p hm
      obtain ⟨a, rfl⟩ := Int.eq_ofNat_of_zero_le k1
      have e1 : (upT A w z j).set a (tabD (tab A (w ++ [z]) q0)) = upT A w z (j + 1) := by
        unfold upT
        refine List.ext_getElem? fun b => ?_
        rw [List.getElem?_set, List.length_map, List.length_range, List.getElem?_map, List.getElem?_map]
        by_cases hb : b < A.many
        · rw [List.getElem?_range hb, Option.map_some, Option.map_some]
          by_cases e : a = b
          · subst e
            rw [if_pos rfl, if_pos hb, if_pos (by rw [List.take_succ, hp]; simp), same a hm]
          · have : ¬ ((b : Int) = (a : Int)) := by omega
            rw [if_neg e, List.take_succ, hp]
            simp [this]
        · rw [List.getElem?_eq_none (by rw [List.length_range]; omega)]
          rw [if_neg (by omega)]
          rfl
      have st : sPut (eVar 3) (eVar 9) (eVar 8) (rtF A x S.length o4 (some (.str z)) o6 o7 (some (tabD (tab A (w ++ [z]) q0))) (some (.int (a : Int)))) (S ++ [.lst (upT A w z j)]) = .nx (rtF A x S.length o4 (some (.str z)) o6 o7 (some (tabD (tab A (w ++ [z]) q0))) (some (.int (a : Int)))) (S ++ [.lst (upT A w z (j + 1))]) := by
        refine s_put (x_var rfl) (x_var rfl) (x_var rfl) ?_
        refine (put_ref gp0 (by unfold upT; rw [List.length_map, List.length_range]; omega)).trans ?_
        rw [sp0, e1]
      refine ⟨rtF A x S.length o4 (some (.str z)) o6 o7 (some (tabD (tab A (w ++ [z]) q0))) (some (.int (a : Int))), rfl, ?_⟩
      rw [st]
      exact ⟨_, rfl, rfl⟩
  · rintro ρ X ⟨p9, rfl, rfl⟩
    rw [List.length_map]
    refine ⟨p9, ?_⟩
    have e2 : upT A w z (plc A z).length = tabsD A (w ++ [z]) := by
      unfold upT tabsD
      rw [List.take_length]
      refine List.map_congr_left fun q _ => ?_
      by_cases c : (q : Int) ∈ plc A z
      · rw [if_pos c]
      · rw [if_neg c, tab_old c]
    rw [e2]
end
end A1
end
section
set_option Elab.async false
set_option linter.all false
set_option maxRecDepth 100000
set_option maxHeartbeats 4000000
set_option autoImplicit false
/-! plain: the law's look at a word holds -/
namespace A1
open PySem PL
section
variable {S : Sto}
theorem rt_turn (wf : WF S) {A : Alph} (h : AlphOk A) {x : List Str} (hx : IsWord A x) (hn : x.length < 59) {i : Nat} {z : Str} (hz : x[i]? = some z) (o6 o7 o8 o9 : Option D) :
    ∃ p6 p7 p8 p9, rtB (rtF A x S.length (some (.int (i : Int))) (some (.str z)) o6 o7 o8 o9) (S ++ [.lst (tabsD A (x.take i))]) = .nx (rtF A x S.length (some (.int (i : Int))) (some (.str z)) p6 p7 p8 p9) (S ++ [.lst (tabsD A (x.take (i + 1)))]) := by
  have hi := (List.getElem?_eq_some_iff.mp hz).1
  have zl := hx.2 z (List.mem_of_getElem? hz)
  have lx := hx.1
  have m5 := h.m5
  have wX : WF (S ++ [.lst (tabsD A (x.take i))]) := WF.app wf fun ob ho => by
    rw [List.mem_singleton.mp ho]; exact lowL_map fun _ _ => low_tab
  have tk : x.take (i + 1) = x.take i ++ [z] := by rw [List.take_succ, hz]; rfl
  have l0 : 0 < (plc A z).length := by
    have := plc_ne h zl
    cases e : plc A z with
    | nil => exact absurd e this
    | cons a b => simp
  obtain ⟨p, hp⟩ : ∃ p, (plc A z)[0]? = some p := ⟨_, List.getElem?_eq_getElem l0⟩
  have hm := List.mem_of_getElem? hp
  obtain ⟨q, rfl⟩ := Int.eq_ofNat_of_zero_le (plc_in h zl p hm).1
  have mt := met_ok wX h (w := x.take i) zl hm
  have lw : (x.take i).length ≤ 200 := by rw [List.length_take]; omega
  obtain ⟨n1, n2⟩ := given_nice h lw zl
  have rp : reprD [.tup ((given A (x.take i) z).map tabD)] (S ++ [.lst (tabsD A (x.take i))]) = .ok (.str (reprS (.tup ((given A (x.take i) z).map tabD)))) (S ++ [.lst (tabsD A (x.take i))]) := repr_ok n1 n2
  obtain ⟨t1, t2⟩ := tab_nice h (x := x.take i ++ [z]) (by rw [List.length_append, List.length_take, List.length_singleton]; omega) q 7
  have rt : reprD [tabD (tab A (x.take i ++ [z]) q)] (S ++ [.lst (tabsD A (x.take i))]) = .ok (.str (reprS (tabD (tab A (x.take i ++ [z]) q)))) (S ++ [.lst (tabsD A (x.take i))]) := repr_ok t1 (Nat.le_trans t2 (by decide))
  have wd := take_word hx (i + 1)
  have tb := table_ok wX h wd (by rw [List.length_take]; omega) q
  rw [tk] at tb
  have sl : slD (wordD x) none (some ((i + 1 : Nat) : Int)) (S ++ [.lst (tabsD A (x.take i))]) = .ok (wordD (x.take i ++ [z])) (S ++ [.lst (tabsD A (x.take i))]) := by
    rw [sl_word, cut_take (by omega), tk]
  have ip : ixD (placeD (plc A z)) (.int 0) (S ++ [.lst (tabsD A (x.take i))]) = .ok (.int (q : Int)) (S ++ [.lst (tabsD A (x.take i))]) := ix_nat (xs := (plc A z).map D.int) (j := 0) rfl (by rw [List.getElem?_map, hp]; rfl)
  have lc : lLC (.nm 9) (iOf (eIx (eVar 2) (eVar 5))) bYes (eIx (eVar 3) (eVar 9)) [9] (rtF A x S.length (some (.int (i : Int))) (some (.str z)) o6 o7 o8 o9) (S ++ [.lst (tabsD A (x.take i))]) = .ok ((given A (x.take i) z).map tabD) (S ++ [.lst (tabsD A (x.take i))]) := by
    have := lLC_all (S := S ++ [.lst (tabsD A (x.take i))]) (T := .nm 9) (it := iOf (eIx (eVar 2) (eVar 5))) (f := eIx (eVar 3) (eVar 9)) (vs := [9]) (ρ := rtF A x S.length (some (.int (i : Int))) (some (.str z)) o6 o7 o8 o9) (s := .one (.fix ((plc A z).map D.int))) (xs := plc A z) (e := D.int) (fun p => tabD (tab A (x.take i) p.toNat)) (i_of (x_ixK (x_var rfl) (x_var rfl) (place_plc h zl)) rfl) rfl (by have := plc_len h zl; omega) fun p hp => by
      obtain ⟨k1, k2⟩ := plc_in h zl p hp
      obtain ⟨a, rfl⟩ := Int.eq_ofNat_of_zero_le k1
      exact ⟨rtF A x S.length (some (.int (i : Int))) (some (.str z)) o6 o7 o8 (some (.int (a : Int))), rfl, x_ixK (x_var rfl) (x_var rfl) (ix_ref gp0 (by unfold tabsD; rw [List.getElem?_map, List.getElem?_range (by omega)]; rfl))⟩
    rw [this]
    unfold given
    rw [List.map_map]
    rfl
  obtain ⟨p9, pt⟩ := put_tabs (S := S) h (x := x) (w := x.take i) zl hm (some (.int (i : Int))) (some (.tup ((given A (x.take i) z).map tabD))) (some (.str (reprS (.tup ((given A (x.take i) z).map tabD))))) o9
  rw [tk]
  refine ⟨_, _, _, p9, s_seqN (s_set (x_bf (x_cons (x_fix (x_nLst lc)) x_nil) tup_lst)) (s_seqN (s_set (x_bf (x_cons (x_var rfl) x_nil) rp)) (s_seqN (s_set (x_call (x_cons (x_var rfl) (x_cons (x_var rfl) (x_cons (x_var rfl) x_nil))) mt)) (s_seqN (s_ifF (y_orF (y_cmpK (x_bf (x_cons (x_var rfl) x_nil) rp) (x_var rfl) ne_strF) (y_cmpK (x_bf (x_cons (x_call (x_cons (x_var rfl) (x_cons (x_var rfl) (x_cons (x_var rfl) x_nil))) mt) x_nil) rt) (x_bf (x_cons (x_var rfl) x_nil) rt) ne_strF)) rfl) (s_seqN (s_ifF (y_cmpK (x_bf (x_cons (x_var rfl) x_nil) rt) (x_bf (x_cons (x_call (x_cons (x_var rfl) (x_cons (x_sl (x_var rfl) rfl ?_ sl) (x_cons (x_ixK (x_ixK (x_var rfl) (x_var rfl) (place_plc h zl)) x_c ip) x_nil))) tb) x_nil) rt) ne_strF) rfl) pt))))⟩
  rfl
theorem right3_ok (wf : WF S) {A : Alph} (h : AlphOk A) {x : List Str} (hx : IsWord A x) (hn : x.length < 59) : M.f_law_right_v3 [A.d, wordD x] S = .ok (.bl true) S := by
  have m5 := h.m5
  have ft := first_ok wf h 0
  have h0 : tabsD A [] = (List.range A.many).map fun _ => tabD (tab A [] 0) := rfl
  have src : iEnum1 (eVar 1) (rtF A x S.length none none none none none none) (S ++ [.lst (tabsD A [])]) = .ok (.enum (.fix (x.map D.str))) (S ++ [.lst (tabsD A [])]) := rfl
  have go : ∃ p4 p5 p6 p7 p8 p9, sFor (.tp [(.nm 4), (.nm 5)]) (iEnum1 (eVar 1)) rtB (rtF A x S.length none none none none none none) (S ++ [.lst (tabsD A [])]) = .nx (rtF A x S.length p4 p5 p6 p7 p8 p9) (S ++ [.lst (tabsD A x)]) := by
    refine sFor_inv (its := ((x.map D.str).zipIdx).map fun p => D.tup [.int (p.2 : Int), p.1])
      (fun i ρ X => ∃ p4 p5 p6 p7 p8 p9, ρ = rtF A x S.length p4 p5 p6 p7 p8 p9 ∧ X = S ++ [.lst (tabsD A (x.take i))])
      (fun r => ∃ p4 p5 p6 p7 p8 p9, r = .nx (rtF A x S.length p4 p5 p6 p7 p8 p9) (S ++ [.lst (tabsD A x)])) src rfl ⟨none, none, none, none, none, none, rfl, rfl⟩ ?_ ?_
    · rintro i d ρ X hd ⟨p4, p5, p6, p7, p8, p9, rfl, rfl⟩
      rw [List.getElem?_map, List.getElem?_zipIdx, List.getElem?_map] at hd
      cases hq : x[i]? with
      | none => rw [hq] at hd; cases hd
      | some z =>
        rw [hq] at hd
        simp at hd
        subst hd
        obtain ⟨q6, q7, q8, q9, t⟩ := rt_turn wf h hx hn hq p6 p7 p8 p9
        refine ⟨rtF A x S.length (some (.int (i : Int))) (some (.str z)) p6 p7 p8 p9, rfl, ?_⟩
        rw [t]
        exact ⟨_, _, _, _, _, _, rfl, rfl⟩
    · rintro ρ X ⟨p4, p5, p6, p7, p8, p9, rfl, rfl⟩
      rw [List.length_map, List.length_zipIdx, List.length_map, List.take_length]
      exact ⟨_, _, _, _, _, _, rfl⟩
  obtain ⟨p4, p5, p6, p7, p8, p9, e1⟩ := go
  have wX : WF (S ++ [.lst (tabsD A x)]) := WF.app wf fun ob ho => by
    rw [List.mem_singleton.mp ho]; exact lowL_map fun _ _ => low_tab
  have hit : iRange1 (eIx (eVar 0) (eC (.int 0))) (rtF A x S.length p4 p5 p6 p7 p8 p9) (S ++ [.lst (tabsD A x)]) = .ok (.one (.fix (rangeD 0 A.many))) (S ++ [.lst (tabsD A x)]) := i_range (x_ixK (x_var rfl) x_c ixA0) (range1_ok (by omega))
  have go2 : ∃ q9, sFor (.nm 9) (iRange1 (eIx (eVar 0) (eC (.int 0)))) (sIf (bCmp .NotEq (eIx (eVar 3) (eVar 9)) (eCallD M.f_law_table [] (aCons (eVar 0) (aCons (eVar 1) (aCons (eVar 9) aNil))))) (sRet (eC (.bl false))) sNext) (rtF A x S.length p4 p5 p6 p7 p8 p9) (S ++ [.lst (tabsD A x)]) = .nx (rtF A x S.length p4 p5 p6 p7 p8 q9) (S ++ [.lst (tabsD A x)]) := by
    refine sFor_inv
      (fun i ρ X => ∃ q9, ρ = rtF A x S.length p4 p5 p6 p7 p8 q9 ∧ X = S ++ [.lst (tabsD A x)])
      (fun r => ∃ q9, r = .nx (rtF A x S.length p4 p5 p6 p7 p8 q9) (S ++ [.lst (tabsD A x)])) hit (items_fix _) ⟨p9, rfl, rfl⟩ ?_ ?_
    · rintro i d ρ X hd ⟨q9, rfl, rfl⟩
      obtain ⟨rfl, hi⟩ := range_at hd
      have tb := table_ok wX h hx (by omega) i
      obtain ⟨t1, _⟩ := tab_nice h hx.1 i 7
      refine ⟨rtF A x S.length p4 p5 p6 p7 p8 (some (.int (i : Int))), rfl, ?_⟩
      have st : sIf (bCmp .NotEq (eIx (eVar 3) (eVar 9)) (eCallD M.f_law_table [] (aCons (eVar 0) (aCons (eVar 1) (aCons (eVar 9) aNil))))) (sRet (eC (.bl false))) sNext (rtF A x S.length p4 p5 p6 p7 p8 (some (.int (i : Int)))) (S ++ [.lst (tabsD A x)]) = .nx (rtF A x S.length p4 p5 p6 p7 p8 (some (.int (i : Int)))) (S ++ [.lst (tabsD A x)]) :=
        s_ifF (y_cmpK (x_ixK (x_var rfl) (x_var rfl) (ix_ref gp0 (by unfold tabsD; rw [List.getElem?_map, List.getElem?_range hi]; rfl))) (x_call (x_cons (x_var rfl) (x_cons (x_var rfl) (x_cons (x_var rfl) x_nil))) tb) (ne_nice t1)) rfl
      rw [st]
      exact ⟨_, rfl, rfl⟩
    · rintro ρ X ⟨q9, rfl, rfl⟩
      exact ⟨_, rfl⟩
  obtain ⟨q9, e2⟩ := go2
  refine fn_ret rfl (S1 := S ++ [.lst (tabsD A x)]) ?_ rfl List.take_left wf
  show M.m_law_right_v3 [some A.d, some (wordD x), none, none, none, none, none, none, none, none] S = _
  refine s_seqN (s_set (x_call (x_cons (x_var rfl) x_nil) (places_ok wf h))) (s_seqN (s_set (x_thaw (ob := .lst (tabsD A [])) (S1 := S) (x_nRep (x_lLst (x_cons (x_call (x_cons (x_var rfl) x_nil) ft) x_nil) (Nat.le_trans (show 1 ≤ 10000 by decide) (by decide))) (x_ixK (x_var rfl) x_c ixA0) ?_))) (s_seqN e1 (s_seqN e2 (s_ret x_c))))
  rw [h0]
  exact rep_gen m5
end
end A1
end
section
set_option Elab.async false
set_option linter.all false
set_option maxRecDepth 100000
set_option maxHeartbeats 4000000
set_option autoImplicit false
/-! plain: rows sorted; the ring alphabets -/
namespace A1
open PySem PL
section
variable {S : Sto}
theorem perm_pw {α : Type} {le : α → α → Bool} : ∀ {l r : List α}, l.Perm r → (∀ a ∈ l, ∀ b ∈ l, le a b = true → le b a = true → a = b) → l.Pairwise (fun a b => le a b = true) → r.Pairwise (fun a b => le a b = true) → l = r
  | [], r, h, _, _, _ => (List.nil_perm.mp h).symm
  | x :: l, [], h, _, _, _ => absurd h.length_eq (by simp)
  | x :: l, y :: r, h, an, hl, hr => by
    obtain ⟨l1, l2⟩ := List.pairwise_cons.mp hl
    obtain ⟨r1, r2⟩ := List.pairwise_cons.mp hr
    have hy : y ∈ x :: l := h.mem_iff.mpr (by simp)
    have hx : x ∈ y :: r := h.mem_iff.mp (by simp)
    have e : x = y := by
      rcases List.mem_cons.mp hx with a | a
      · exact a
      · rcases List.mem_cons.mp hy with b | b
        · exact b.symm
        · exact an x (by simp) y hy (l1 y b) (r1 x a)
    subst e
    rw [perm_pw (List.Perm.cons_inv h) (fun a ha b hb => an a (List.mem_cons_of_mem _ ha) b (List.mem_cons_of_mem _ hb)) l2 r2]
def leN (r t : Str × List Int) : Bool := A1.leS r.1 t.1
theorem lt_rowsN {r t : Str × List Int} (h : strLt t.1 r.1) : PySem.W.dataLe false (enc S) (rowD r) (rowD t) = false := by
  show (!PySem.W.dataLt (enc S (rowD t)) (enc S (rowD r))) = false
  rw [enc_row, enc_row]
  unfold rowP
  have h : t.1.cps.toList < r.1.cps.toList := h
  have ne : ¬ t.1 = r.1 := fun e => by rw [e] at h; exact List.lt_irrefl _ h
  rw [PySem.W.dataLt_tuple, PySem.W.dataLt_all_no rfl (by simp [PyData.eqv, ne]), PySem.W.dataLt_str]
  simp [h]
theorem le_self {r : Str × List Int} : PySem.W.dataLe false (enc S) (rowD r) (rowD r) = true := by
  show (!PySem.W.dataLt (enc S (rowD r)) (enc S (rowD r))) = true
  rw [show PySem.W.dataLt (enc S (rowD r)) (enc S (rowD r)) = false from PyProof.Rows.lex_irrefl _]; rfl
/-- rows in any order, names that differ -/
theorem sorted_rowsP {rows out : List (Str × List Int)} (hp : rows.Perm out) (h : (out.map (·.1)).Pairwise strLt) (hl : rows.length ≤ 10000) {v : D} (hs : seqOf S v = some (rows.map rowD)) (hi : isL S v = true) : sortedN [v] S = .ok (.lst (out.map rowD)) S := by
  have e1 : optAll (py S) (rows.map rowD) = some (rows.map rowP) := optAll_map py_row rows
  have hpw : out.Pairwise fun r t => strLt r.1 t.1 := List.pairwise_map.mp h
  have cmp : ∀ r ∈ rows, ∀ t ∈ rows, r = t ∨ strLt r.1 t.1 ∨ strLt t.1 r.1 := fun r hr t ht => by
    rcases strLt_total r.1 t.1 with q | q | q
    · exact .inr (.inl q)
    · left
      have hr := hp.mem_iff.mp hr
      have ht := hp.mem_iff.mp ht
      obtain ⟨i, hi, ei⟩ := List.getElem_of_mem hr
      obtain ⟨j, hj, ej⟩ := List.getElem_of_mem ht
      have := List.pairwise_iff_getElem.mp hpw
      rcases Nat.lt_trichotomy i j with c | c | c
      · have := this i j hi hj c
        rw [ei, ej, q] at this
        exact absurd this strLt_irrefl
      · subst c; rw [← ei, ← ej]
      · have := this j i hj hi c
        rw [ei, ej, q] at this
        exact absurd this strLt_irrefl
    · exact .inr (.inr q)
  have eq : ∀ r ∈ rows, ∀ t ∈ rows, leN r t = PySem.W.dataLe false (enc S) (rowD r) (rowD t) := fun r hr t ht => by
    rcases cmp r hr t ht with q | q | q
    · subst q
      rw [le_self]
      exact leS_iff.mpr strLt_irrefl
    · rw [le_rows q]
      exact leS_iff.mpr fun z => strLt_irrefl (strLt_trans z q)
    · rw [lt_rowsN q]
      cases c : leN r t with
      | false => rfl
      | true => exact absurd q (leS_iff.mp c)
  have mp : (rows.mergeSort leN).Perm rows := List.mergeSort_perm rows leN
  have mw : (rows.mergeSort leN).Pairwise fun a b => leN a b = true := List.pairwise_mergeSort (le := leN) (fun a b c h g => by
    unfold leN at *
    rw [leS_iff] at *
    intro z
    rcases strLt_total a.1 b.1 with q | q | q
    · exact g (strLt_trans z q)
    · rw [q] at z; exact g z
    · exact h q) (fun a b => by
    unfold leN
    rw [Bool.or_eq_true, leS_iff, leS_iff]
    rcases strLt_total a.1 b.1 with q | q | q
    · exact .inl fun z => strLt_irrefl (strLt_trans z q)
    · rw [q]; exact .inl strLt_irrefl
    · exact .inr fun z => strLt_irrefl (strLt_trans z q)) rows
  have eo : rows.mergeSort leN = out := by
    refine perm_pw (le := leN) (mp.trans hp) (fun a ha b hb h1 h2 => ?_) mw (hpw.imp fun q => leS_iff.mpr fun z => strLt_irrefl (strLt_trans z q))
    rcases cmp a (mp.mem_iff.mp ha) b (mp.mem_iff.mp hb) with q | q | q
    · exact q
    · exact absurd q (leS_iff.mp h2)
    · exact absurd q (leS_iff.mp h1)
  have e2 : sortD S (rows.map rowD) = out.map rowD := by
    unfold sortD
    rw [← List.map_mergeSort (r := leN) (fun a ha b hb => eq a ha b hb), eo]
  have ok : sortOk (rows.map rowP) = true := by
    unfold sortOk
    have a1 : ((rows.map rowP).all fun p => (rows.map rowP).all fun q => PySem.W.alike p q) = true := by
      refine List.all_eq_true.mpr fun p hp => List.all_eq_true.mpr fun q hq => ?_
      obtain ⟨r, _, rfl⟩ := List.mem_map.mp hp
      obtain ⟨t, _, rfl⟩ := List.mem_map.mp hq
      exact alike_rows r t
    have : (rows.map rowP).length ≤ sizeLine := by rw [List.length_map]; exact size_le hl
    refine Bool.and_eq_true_iff.mpr ⟨Bool.and_eq_true_iff.mpr ⟨a1, Bool.or_eq_true_iff.mpr (.inl (List.all_eq_true.mpr fun p hp => ?_))⟩, decide_eq_true this⟩
    obtain ⟨r, _, rfl⟩ := List.mem_map.mp hp
    rfl
  unfold sortedN
  simp only [hs, hi, e1, ok, if_true, e2]
end
end A1
end
section
set_option Elab.async false
set_option linter.all false
set_option maxRecDepth 100000
set_option maxHeartbeats 4000000
set_option autoImplicit false
/-! plain: the ring alphabets -/
namespace A1
open PySem PL
section
variable {S : Sto}
def sgN : Nat → Str
  | 0 => "a" | 1 => "b" | 2 => "c" | 3 => "d" | _ => "e"
def mN : Nat → Str
  | 0 => "ma" | 1 => "mb" | 2 => "mc" | 3 => "md" | _ => "me"
def oN : Nat → Str
  | 0 => "owna" | 1 => "ownb" | 2 => "ownc" | 3 => "ownd" | _ => "owne"
def ringP (t p : Nat) : List Int := srtI [(p : Int), ((p : Int) + 1) % (t : Int)]
def mRow (t p : Nat) : Str × List Int := (mN p, ringP t p)
def oRow (p : Nat) : Str × List Int := (oN p, [(p : Int)])
theorem sg_at {p : Nat} (h : p < 5) : ixD (.str "abcde") (.int (p : Int)) S = .ok (.str (sgN p)) S := by
  match p, h with
  | 0, _ => rfl
  | 1, _ => rfl
  | 2, _ => rfl
  | 3, _ => rfl
  | 4, _ => rfl
theorem m_add {p : Nat} (h : p < 5) : binD .Add (.str "m") (.str (sgN p)) S = .ok (.str (mN p)) S := by
  match p, h with
  | 0, _ => rfl
  | 1, _ => rfl
  | 2, _ => rfl
  | 3, _ => rfl
  | 4, _ => rfl
theorem o_add {p : Nat} (h : p < 5) : binD .Add (.str "own") (.str (sgN p)) S = .ok (.str (oN p)) S := by
  match p, h with
  | 0, _ => rfl
  | 1, _ => rfl
  | 2, _ => rfl
  | 3, _ => rfl
  | 4, _ => rfl
theorem mm_lt : ∀ a, a < 5 → ∀ b, b < 5 → a < b → strLt (mN a) (mN b) := by decide
theorem oo_lt : ∀ a, a < 5 → ∀ b, b < 5 → a < b → strLt (oN a) (oN b) := by decide
theorem mo_lt : ∀ a, a < 5 → ∀ b, b < 5 → strLt (mN a) (oN b) := by decide
theorem m_name {p : Nat} (h : p < 5) : nameOk (mN p) := by
  match p, h with
  | 0, _ => exact ⟨by decide, by decide, by decide⟩
  | 1, _ => exact ⟨by decide, by decide, by decide⟩
  | 2, _ => exact ⟨by decide, by decide, by decide⟩
  | 3, _ => exact ⟨by decide, by decide, by decide⟩
  | 4, _ => exact ⟨by decide, by decide, by decide⟩
theorem o_name {p : Nat} (h : p < 5) : nameOk (oN p) := by
  match p, h with
  | 0, _ => exact ⟨by decide, by decide, by decide⟩
  | 1, _ => exact ⟨by decide, by decide, by decide⟩
  | 2, _ => exact ⟨by decide, by decide, by decide⟩
  | 3, _ => exact ⟨by decide, by decide, by decide⟩
  | 4, _ => exact ⟨by decide, by decide, by decide⟩
theorem insI_len {x : Int} : ∀ {l : List Int}, (insI x l).length ≤ l.length + 1
  | [] => by simp [insI]
  | y :: r => by
    unfold insI
    split
    · simp
    · split
      · simp
      · have := insI_len (x := x) (l := r)
        simp only [List.length_cons]
        omega
theorem ring_ok {t p : Nat} (h2 : 2 ≤ t) (hp : p < t) : placeOk t (ringP t p) := by
  refine ⟨fun e => ?_, fun i hi => ?_, srtI_pw _, ?_⟩
  · have : (p : Int) ∈ ringP t p := srtI_mem.mpr (by simp)
    rw [e] at this; cases this
  · have hi := srtI_mem.mp hi
    rcases List.mem_cons.mp hi with q | q
    · omega
    · have q := List.mem_singleton.mp q
      have a := Int.emod_nonneg ((p : Int) + 1) (b := (t : Int)) (by omega)
      have b := Int.emod_lt_of_pos ((p : Int) + 1) (b := (t : Int)) (by omega)
      omega
  · have a := insI_len (x := (p : Int)) (l := insI (((p : Int) + 1) % (t : Int)) [])
    have b := insI_len (x := ((p : Int) + 1) % (t : Int)) (l := [])
    show (insI (p : Int) (insI (((p : Int) + 1) % (t : Int)) [])).length ≤ 5
    simp only [List.length_nil] at b
    omega
def ringA (t : Nat) (os : List Nat) : Alph := ⟨t, (List.range t).map (mRow t) ++ os.map oRow⟩
theorem ringA_ok {t : Nat} {os : List Nat} (h2 : 2 ≤ t) (h5 : t ≤ 5) (ho : os.Pairwise (· < ·)) (hl : ∀ o ∈ os, o < t) : AlphOk (ringA t os) := by
  have lo : os.length ≤ t := nodup_len (ho.imp fun h => by omega) hl
  refine ⟨by show 1 ≤ t; omega, h5, ?_, ?_, fun r hr => ?_, fun r hr => ?_, ?_⟩
  · show 1 ≤ ((List.range t).map (mRow t) ++ os.map oRow).length
    rw [List.length_append, List.length_map, List.length_range]; omega
  · show ((List.range t).map (mRow t) ++ os.map oRow).length ≤ 10
    rw [List.length_append, List.length_map, List.length_map, List.length_range]; omega
  · rcases List.mem_append.mp hr with q | q
    · obtain ⟨p, hp, rfl⟩ := List.mem_map.mp q
      exact m_name (by have := List.mem_range.mp hp; omega)
    · obtain ⟨p, hp, rfl⟩ := List.mem_map.mp q
      exact o_name (by have := hl p hp; omega)
  · rcases List.mem_append.mp hr with q | q
    · obtain ⟨p, hp, rfl⟩ := List.mem_map.mp q
      exact ring_ok h2 (List.mem_range.mp hp)
    · obtain ⟨p, hp, rfl⟩ := List.mem_map.mp q
      have := hl p hp
      exact ⟨by simp [oRow], fun i hi => by rw [List.mem_singleton.mp hi]; show 0 ≤ (p : Int) ∧ (p : Int) ≤ (t : Int) - 1; omega, by simp [oRow], by simp [oRow]⟩
  · show (((List.range t).map (mRow t) ++ os.map oRow).map (·.1)).Pairwise strLt
    rw [List.map_append, List.map_map, List.map_map, List.pairwise_append]
    refine ⟨List.pairwise_map.mpr (List.Pairwise.imp_of_mem (fun {a b} ha hb h => mm_lt a (by have := List.mem_range.mp ha; omega) b (by have := List.mem_range.mp hb; omega) h) List.pairwise_lt_range), List.pairwise_map.mpr (List.Pairwise.imp_of_mem (fun {a b} ha hb h => oo_lt a (by have := hl a ha; omega) b (by have := hl b hb; omega) h) ho), fun a ha b hb => ?_⟩
    obtain ⟨p, hp, rfl⟩ := List.mem_map.mp ha
    obtain ⟨q, hq, rfl⟩ := List.mem_map.mp hb
    exact mo_lt p (by have := List.mem_range.mp hp; omega) q (by have := hl q hq; omega)
end
end A1
end
section
set_option Elab.async false
set_option linter.all false
set_option maxRecDepth 100000
set_option maxHeartbeats 4000000
set_option autoImplicit false
/-! plain: the ring alphabets are drawn -/
namespace A1
open PySem PL
section
variable {S : Sto}
abbrev mgF (l : Nat) (t p : Nat) (o4 : Option D) : Fr := [some (.ref l), some (.int 5), some (.int (t : Int)), some (.ref p), o4]
abbrev mgM : St' := sExpr (eMeth [("list", appendD)] (eVar 3) (aCons (eTup (aCons (eBin .Add (eC (.str "m")) (eIx (eC (.str "abcde")) (eVar 4))) (aCons (eBf tupleD (aCons (eFixN (nSrtSet (eFixN (nLst (lLst (aCons (eVar 4) (aCons (eBin .Mod (eBin .Add (eVar 4) (eC (.int 1))) (eVar 2)) aNil))))))) aNil)) aNil))) aNil))
abbrev mgO : St' := sIf (bCmp .Eq (eCallD M.f_law_draw [] (aCons (eVar 0) (aCons (eC (.int 2)) aNil))) (eC (.int 0))) (sExpr (eMeth [("list", appendD)] (eVar 3) (aCons (eTup (aCons (eBin .Add (eC (.str "own")) (eIx (eC (.str "abcde")) (eVar 4))) (aCons (eTup (aCons (eVar 4) aNil)) aNil))) aNil))) sNext
theorem two_le : 2 ≤ sizeLine := Nat.le_trans (show 2 ≤ 10000 by decide) (by decide)
theorem one_le : 1 ≤ sizeLine := Nat.le_trans (show 1 ≤ 10000 by decide) (by decide)
theorem mg_m {l t i : Nat} (h5 : t ≤ 5) (hi : i < t) {rows : List (Str × List Int)} (hr : rows.length ≤ 100) : mgM (mgF l t S.length (some (.int (i : Int)))) (S ++ [.lst (rows.map rowD)]) = .nx (mgF l t S.length (some (.int (i : Int)))) (S ++ [.lst ((rows ++ [mRow t i]).map rowD)]) := by
  have md : binD .Mod (.int ((i : Int) + 1)) (.int (t : Int)) (S ++ [.lst (rows.map rowD)]) = .ok (.int (((i : Int) + 1) % (t : Int))) (S ++ [.lst (rows.map rowD)]) := by
    show (if 0 < (t : Int) then Res.ok (D.int (((i : Int) + 1) % (t : Int))) _ else .bad) = _
    rw [if_pos (by omega)]
  have st : srtSetOb (.lst [.int (i : Int), .int (((i : Int) + 1) % (t : Int))]) (S ++ [.lst (rows.map rowD)]) = .ok (.lst ((ringP t i).map D.int)) (S ++ [.lst (rows.map rowD)]) := rfl
  have sr : nSrtSet (eFixN (nLst (lLst (aCons (eVar 4) (aCons (eBin .Mod (eBin .Add (eVar 4) (eC (.int 1))) (eVar 2)) aNil))))) (mgF l t S.length (some (.int (i : Int)))) (S ++ [.lst (rows.map rowD)]) = .ok (.lst ((ringP t i).map D.int)) (S ++ [.lst (rows.map rowD)]) := by
    unfold nSrtSet
    rw [x_fix (x_nLst (x_lLst (x_cons (x_var (i := 4) rfl) (x_cons (x_binK (x_binK (x_var (i := 4) rfl) (x_c (d := .int 1)) add_ok) (x_var (i := 2) rfl) md) x_nil)) two_le))]
    exact st
  refine s_expr (d := .non) (x_meth (x_var rfl) (ty_refL gp0) rfl (x_cons (x_tup (x_cons (x_binK x_c (x_ixK x_c (x_var rfl) (sg_at (by omega))) (m_add (by omega))) (x_cons (x_bf (x_cons (x_fix sr) x_nil) tup_lst) x_nil)) two_le) x_nil) ?_)
  refine (app_at gp0 (by rw [List.length_map]; omega)).trans ?_
  rw [sp0, List.map_append]; rfl
theorem mg_o {l k t i : Nat} (h5 : t ≤ 5) (hi : i < t) {rows : List (Str × List Int)} (hr : rows.length ≤ 100) (w : WF S) (s : Stm l k S) (hk : k < 2 ^ 60) :
    ∃ (b : Bool) (S1 : Sto), mgO (mgF l t S.length (some (.int (i : Int)))) (S ++ [.lst (rows.map rowD)]) = .nx (mgF l t S.length (some (.int (i : Int)))) (S1 ++ [.lst ((rows ++ if b = true then [oRow i] else []).map rowD)]) ∧ Drawn l (k + 1) S S1 := by
  have wX : WF (S ++ [.lst (rows.map rowD)]) := WF.app w fun ob ho => by
    rw [List.mem_singleton.mp ho]; exact lowL_map fun r _ => low_row r _
  obtain ⟨r, S1, e, r0, r1, d⟩ := draw_app (T := [.lst (rows.map rowD)]) (n := 2) wX s hk (by decide) (by decide)
  have test : bCmp .Eq (eCallD M.f_law_draw [] (aCons (eVar 0) (aCons (eC (.int 2)) aNil))) (eC (.int 0)) (mgF l t S.length (some (.int (i : Int)))) (S ++ [.lst (rows.map rowD)]) = .ok (decide (r = 0)) (S1 ++ [.lst (rows.map rowD)]) := y_cmpK (x_call (x_cons (x_var rfl) (x_cons x_c x_nil)) e) x_c eq_int
  refine ⟨decide (r = 0), S1, ?_, d⟩
  have len := d.len
  by_cases c : r = 0
  · rw [decide_eq_true c] at test ⊢
    refine s_ifT test (s_expr (d := .non) (x_meth (x_var rfl) (ty_refL (xs := rows.map rowD) ?_) rfl (x_cons (x_tup (x_cons (x_binK x_c (x_ixK x_c (x_var rfl) (sg_at (by omega))) (o_add (by omega))) (x_cons (x_tup (x_cons (x_var rfl) x_nil) one_le) x_nil)) two_le) x_nil) ?_))
    · rw [← len]; exact gp0
    · rw [← len]
      refine (app_at gp0 (by rw [List.length_map]; omega)).trans ?_
      rw [sp0, if_pos rfl, List.map_append]; rfl
  · rw [decide_eq_false c] at test ⊢
    rw [if_neg Bool.false_ne_true, List.append_nil]
    exact s_ifF test rfl
theorem meeting_ok {l k : Nat} (w : WF S) (s : Stm l k S) (hk : k + 100 < 2 ^ 60) : ∃ (A : Alph) (S1 : Sto), M.f_law_meeting_alphabet [.ref l, .int 5] S = .ok A.d S1 ∧ AlphOk A ∧ Drawn l (k + 20) S S1 := by
  obtain ⟨r, S1, e1, p0, p1, d1⟩ := draw_ok (n := 4) w s (by omega) (by decide) (by decide)
  obtain ⟨t, rfl⟩ := Int.eq_ofNat_of_zero_le p0
  have w1 := d1.wf w
  have s1 := d1.stm s
  have tot : (2 : Int) + (t : Int) = ((t + 2 : Nat) : Int) := by omega
  have len : (rangeD 0 (t + 2)).length = t + 2 := by unfold rangeD; rw [List.length_map, List.length_range]
  have hit : iRange1 (eVar 2) (mgF l (t + 2) S1.length none) (S1 ++ [.lst []]) = .ok (.one (.fix (rangeD 0 (t + 2)))) (S1 ++ [.lst []]) := i_range (x_var rfl) (range1_ok (by omega))
  have go : ∃ (p4 : Option D) (rows : List (Str × List Int)) (os : List Nat) (S2 : Sto), sFor (.nm 4) (iRange1 (eVar 2)) (sSeq mgM mgO) (mgF l (t + 2) S1.length none) (S1 ++ [.lst []]) = .nx (mgF l (t + 2) S1.length p4) (S2 ++ [.lst (rows.map rowD)]) ∧ Drawn l (k + 1 + (t + 2)) S1 S2 ∧ rows.Perm ((List.range (t + 2)).map (mRow (t + 2)) ++ os.map oRow) ∧ os.Pairwise (· < ·) ∧ (∀ o ∈ os, o < t + 2) ∧ rows.length ≤ 2 * (t + 2) := by
    refine sFor_inv
      (fun i ρ X => ∃ (p4 : Option D) (rows : List (Str × List Int)) (os : List Nat) (S2 : Sto), ρ = mgF l (t + 2) S1.length p4 ∧ X = S2 ++ [.lst (rows.map rowD)] ∧ Drawn l (k + 1 + i) S1 S2 ∧ rows.Perm ((List.range i).map (mRow (t + 2)) ++ os.map oRow) ∧ os.Pairwise (· < ·) ∧ (∀ o ∈ os, o < i) ∧ rows.length ≤ 2 * i)
      (fun q => ∃ (p4 : Option D) (rows : List (Str × List Int)) (os : List Nat) (S2 : Sto), q = .nx (mgF l (t + 2) S1.length p4) (S2 ++ [.lst (rows.map rowD)]) ∧ Drawn l (k + 1 + (t + 2)) S1 S2 ∧ rows.Perm ((List.range (t + 2)).map (mRow (t + 2)) ++ os.map oRow) ∧ os.Pairwise (· < ·) ∧ (∀ o ∈ os, o < t + 2) ∧ rows.length ≤ 2 * (t + 2)) hit (items_fix _) ⟨none, [], [], S1, rfl, rfl, s1.drawn, List.Perm.refl _, List.Pairwise.nil, by simp, by simp⟩ ?_ ?_
    · rintro i d ρ X hd ⟨p4, rows, os, S2, rfl, rfl, dr, pm, pw, lo, lr⟩
      obtain ⟨rfl, hi⟩ := range_at hd
      have w2 := dr.wf w1
      have s2 := dr.stm s1
      have sl := dr.len
      have a1 := mg_m (S := S2) (l := l) (t := t + 2) (i := i) (by omega) hi (rows := rows) (by omega)
      obtain ⟨b, S3, a2, d3⟩ := mg_o (S := S2) (t := t + 2) (i := i) (by omega) hi (rows := rows ++ [mRow (t + 2) i]) (by rw [List.length_append]; simp; omega) w2 s2 (by omega)
      rw [sl] at a1 a2
      refine ⟨mgF l (t + 2) S1.length (some (.int (i : Int))), rfl, ?_⟩
      rw [s_seqN a1 a2]
      have pm1 : (rows ++ [mRow (t + 2) i]).Perm ((List.range (i + 1)).map (mRow (t + 2)) ++ os.map oRow) := by
        rw [List.range_succ, List.map_append, List.append_assoc]
        refine (List.Perm.append_right _ pm).trans ?_
        rw [List.append_assoc]
        exact List.Perm.append_left _ List.perm_append_comm
      refine ⟨_, _, if b = true then os ++ [i] else os, S3, rfl, rfl, dr.trans d3, ?_, ?_, ?_, ?_⟩
      · cases b with
        | true =>
          rw [if_pos rfl, if_pos rfl, List.map_append, ← List.append_assoc]
          exact List.Perm.append_right _ pm1
        | false =>
          rw [if_neg Bool.false_ne_true, if_neg Bool.false_ne_true, List.append_nil]
          exact pm1
      · cases b with
        | true =>
          rw [if_pos rfl, List.pairwise_append]
          exact ⟨pw, by simp, fun a ha c hc => by rw [List.mem_singleton.mp hc]; exact lo a ha⟩
        | false => rw [if_neg Bool.false_ne_true]; exact pw
      · intro o ho
        cases b with
        | true =>
          rw [if_pos rfl] at ho
          rcases List.mem_append.mp ho with q | q
          · have := lo o q; omega
          · rw [List.mem_singleton.mp q]; omega
        | false =>
          rw [if_neg Bool.false_ne_true] at ho
          have := lo o ho; omega
      · rw [List.length_append, List.length_append]
        cases b <;> simp <;> omega
    · rintro ρ X ⟨p4, rows, os, S2, rfl, rfl, dr, pm, pw, lo, lr⟩
      rw [len] at dr pm lo lr
      exact ⟨_, rows, os, S2, rfl, dr, pm, pw, lo, lr⟩
  obtain ⟨p4, rows, os, S2, e2, d2, pm, pw, lo, lr⟩ := go
  have ok := ringA_ok (t := t + 2) (by omega) (by omega) pw lo
  have dd : Drawn l (k + 20) S S2 := by
    obtain ⟨a, b, c, e, g⟩ := d1.trans d2
    exact ⟨a, b, c, e, g.mono (by omega)⟩
  refine ⟨ringA (t + 2) os, S2, fn_ret rfl ?_ (low_alph _ _) (S1 := S2 ++ [.lst (rows.map rowD)]) ?_ (dd.low w), ok, dd⟩
  · show M.m_law_meeting_alphabet [some (.ref l), some (.int 5), none, none, none] S = _
    have sl := d2.len
    have par : aCons (eBin .Add (eC (.int 2)) (eCallD M.f_law_draw [] (aCons (eVar 0) (aCons (eBin .Sub (eVar 1) (eC (.int 1))) aNil)))) (aCons (eThaw (nLst (lLst aNil))) aNil) [some (.ref l), some (.int 5), none, none, none] S = .ok [.int ((t + 2 : Nat) : Int), .ref S1.length] (S1 ++ [.lst []]) := by
      rw [← tot]
      exact x_cons (x_binK x_c (x_call (x_cons (x_var rfl) (x_cons (x_binK (x_var rfl) x_c rfl) x_nil)) e1) add_ok) (x_cons (x_thaw (x_nLst (x_lLst x_nil (Nat.zero_le _)))) x_nil)
    have p2 : sPar 2 3 (aCons (eBin .Add (eC (.int 2)) (eCallD M.f_law_draw [] (aCons (eVar 0) (aCons (eBin .Sub (eVar 1) (eC (.int 1))) aNil)))) (aCons (eThaw (nLst (lLst aNil))) aNil)) [some (.ref l), some (.int 5), none, none, none] S = .nx (mgF l (t + 2) S1.length none) (S1 ++ [.lst []]) := s_par par
    refine s_seqN p2 (s_seqN e2 (s_ret ?_))
    · have sq : seqOf (S2 ++ [.lst (rows.map rowD)]) (.ref S1.length) = some (rows.map rowD) := seq_ref (by rw [← sl]; exact gp0)
      exact x_tup (x_cons (x_var rfl) (x_cons (x_bf (x_cons (x_fix (x_bfN (x_cons (x_var rfl) x_nil) (sorted_rowsP pm ok.asc (by omega) sq rfl))) x_nil) tup_lst) x_nil)) two_le
  · rw [← dd.len, List.take_left]
end
end A1
end
section
set_option Elab.async false
set_option linter.all false
set_option maxRecDepth 100000
set_option maxHeartbeats 4000000
set_option autoImplicit false
/-! plain: law k39 -/
namespace A1
open PySem PL
section
variable {S : Sto}
theorem word_drawn' {l k n : Nat} (w : WF S) (s : Stm l k S) (hk : k + 300 < 2 ^ 60) {A : Alph} (h : AlphOk A) (hn : n ≤ 200) : ∃ (x : List Str) (S1 : Sto), M.f_law_word [.ref l, A.d, .int (n : Int)] S = .ok (wordD x) S1 ∧ IsWord A x ∧ x.length ≤ n ∧ Drawn l (k + n) S S1 := by
  have lc : lLC (.tp [.nm 4, .nm 5]) (iOf (eIx (eVar 1) (eC (.int 1)))) bYes (eVar 4) [4, 5] [some (.ref l), some A.d, some (.int (n : Int)), none, none, none, none] S = .ok (A.rows.map fun r => .str r.1) S :=
    lLC_all (s := .one (.fix (A.rows.map rowD))) (e := rowD) (fun r => .str r.1) (i_of (x_ixK (x_var rfl) x_c ixA1) rfl) rfl (by have := h.r10; omega) fun r _ => ⟨_, rfl, rfl⟩
  have el : (A.rows.map fun r => D.str r.1) = (letters A).map D.str := by simp [letters, Function.comp_def]
  rw [el] at lc
  have len : (rangeD 0 n).length = n := by simp [rangeD]
  have ll : ((letters A).map D.str).length = A.rows.length := by simp [letters]
  obtain ⟨out, X, e, ⟨x, S1, rfl, rfl, d, hx⟩, ol⟩ := lLC_inv (T := .nm 6) (it := iRange1 (eVar 2)) (c := bYes) (f := eCallD M.f_law_pick [] (aCons (eVar 0) (aCons (eVar 3) aNil))) (vs := [6]) (ρ := [some (.ref l), some A.d, some (.int (n : Int)), some (.lst ((letters A).map D.str)), none, none, none]) (S := S) (its := rangeD 0 n)
    (fun i acc X => ∃ (x : List Str) (S1 : Sto), acc = x.map D.str ∧ X = S1 ∧ Drawn l (k + i) S S1 ∧ ∀ z ∈ x, z ∈ letters A) (i_range (x_var rfl) (range1_ok (by omega))) rfl (by rw [len]; exact size_le (by omega))
    ⟨[], S, rfl, rfl, s.drawn, by simp⟩ (by
      rintro i d acc X hd hal ⟨x, S1, rfl, rfl, dr, hx⟩
      obtain ⟨rfl, hlt⟩ := range_at hd
      obtain ⟨y, S2, e, my, d2⟩ := pick_ok (xs := (letters A).map D.str) (dr.wf w) (dr.stm s) (by omega) (by rw [ll]; have := h.r1; omega) (by rw [ll]; have := h.r10; omega) (lowL_map fun _ _ => rfl)
      obtain ⟨z, hz, rfl⟩ := List.mem_map.mp my
      refine ⟨_, true, X, rfl, rfl, by simp, fun _ => ⟨.str z, S2, x_call (x_cons (x_var rfl) (x_cons (x_var rfl) x_nil)) e, x ++ [z], S2, by simp, rfl, dr.trans d2, fun t ht => ?_⟩⟩
      rcases List.mem_append.mp ht with q | q
      · exact hx t q
      · rw [List.mem_singleton.mp q]; exact hz)
  rw [len] at d ol
  rw [List.length_map] at ol
  refine ⟨x, X, fn_ret rfl ?_ (low_word _ _) d.take (d.low w), ⟨by omega, hx⟩, by omega, d⟩
  show M.m_law_word [some (.ref l), some A.d, some (.int (n : Int)), none, none, none, none] S = _
  exact s_seqN (s_set (x_fix (x_nLst lc))) (s_ret (x_bf (x_cons (x_fix (x_nLst e)) x_nil) tup_lst))
abbrev turnK : St' := (sSeq (sSet (.nm 2) (eCallD M.f_law_stream [] (aCons (eVar 0) (aCons (eVar 1) aNil)))) (sSeq (sSet (.nm 3) (eIx (eFixN (nLst (lLst (aCons (eCallD M.f_law_alphabet [] (aCons (eVar 2) (aCons (eC (.int 5)) (aCons (eC (.int 8)) aNil)))) (aCons (eCallD M.f_law_meeting_alphabet [] (aCons (eVar 2) (aCons (eC (.int 5)) aNil))) aNil))))) (eCallD M.f_law_draw [] (aCons (eVar 2) (aCons (eC (.int 2)) aNil))))) (sIf (bNot (bVal (eCallD M.f_law_right_v3 [] (aCons (eVar 3) (aCons (eCallD M.f_law_word [] (aCons (eVar 2) (aCons (eVar 3) (aCons (eBin .Add (eC (.int 5)) (eCallD M.f_law_draw [] (aCons (eVar 2) (aCons (eC (.int 26)) aNil)))) aNil)))) aNil))))) (sRet (eC (.bl false))) sNext)))
theorem pick2 {a b : D} {r : Nat} (h : r < 2) : ∃ d, (d = a ∨ d = b) ∧ ∀ X : Sto, ixD (.lst [a, b]) (.int (r : Int)) X = .ok d X := by
  match r, h with
  | 0, _ => exact ⟨a, .inl rfl, fun X => ix_nat (xs := [a, b]) rfl rfl⟩
  | 1, _ => exact ⟨b, .inr rfl, fun X => ix_nat (xs := [a, b]) rfl rfl⟩
theorem turn_body (ns : List Int) {i : Nat} (hi : i < 1000) (w : WF S) (o2 o3 o4 o5 o6 : Option D) :
    ∃ (p2 p3 : Option D) (S1 : Sto), turnK [some (.scr (ns.map D.int)), some (.int (i : Int)), o2, o3, o4, o5, o6] S = .nx [some (.scr (ns.map D.int)), some (.int (i : Int)), p2, p3, o4, o5, o6] S1 ∧ WF S1 := by
  obtain ⟨a, b, e1, sb⟩ := stream_ok (S := S) ns i (by omega)
  have w1 := wf_stm w a b
  have s1 : Stm S.length 0 (S ++ [stm a b 0]) := Stm.last sb
  generalize S ++ [stm a b 0] = T at *
  obtain ⟨A, S2, e2, h, d2, hn⟩ := alphabet_ok 5 8 (by decide) (by decide) w1 s1 (by omega)
  have w2 := d2.wf w1
  have s2 := d2.stm s1
  obtain ⟨B, S3, e3, h3, d3⟩ := meeting_ok w2 s2 (by omega)
  have w3 := d3.wf w2
  have s3 := d3.stm s2
  obtain ⟨r, S4, e4, r0, r1, d4⟩ := draw_ok (n := 2) w3 s3 (by omega) (by decide) (by decide)
  obtain ⟨n, rfl⟩ := Int.eq_ofNat_of_zero_le r0
  have w4 := d4.wf w3
  have s4 := d4.stm s3
  obtain ⟨d, hd, ix⟩ := pick2 (a := A.d) (b := B.d) (r := n) (by omega)
  obtain ⟨C, hC, ed⟩ : ∃ C : Alph, AlphOk C ∧ d = C.d := by
    rcases hd with q | q
    · exact ⟨A, h, q⟩
    · exact ⟨B, h3, q⟩
  subst ed
  obtain ⟨r, S5, e5, r0, r1, d5⟩ := draw_ok (n := 26) w4 s4 (by omega) (by decide) (by decide)
  obtain ⟨m, rfl⟩ := Int.eq_ofNat_of_zero_le r0
  have w5 := d5.wf w4
  have s5 := d5.stm s4
  have hm : (5 : Int) + (m : Int) = ((5 + m : Nat) : Int) := by omega
  obtain ⟨x, S6, e6, hx, lx, d6⟩ := word_drawn' (n := 5 + m) w5 s5 (by omega) hC (by omega)
  have w6 := d6.wf w5
  rw [← hm] at e6
  refine ⟨some (.ref S.length), some C.d, S6, ?_, w6⟩
  refine s_seqN (s_set (x_call (x_cons (x_var rfl) (x_cons (x_var rfl) x_nil)) e1)) ?_
  refine s_seqN (s_set (x_ixK (x_fix (x_nLst (x_lLst (x_cons (x_call (x_cons (x_var rfl) (x_cons x_c (x_cons x_c x_nil))) e2) (x_cons (x_call (x_cons (x_var rfl) (x_cons x_c x_nil)) e3) x_nil)) two_le))) (x_call (x_cons (x_var rfl) (x_cons x_c x_nil)) e4) (ix _))) ?_
  exact s_ifF (y_not (y_val (x_call (x_cons (x_var rfl) (x_cons (x_call (x_cons (x_var rfl) (x_cons (x_var rfl) (x_cons (x_binK x_c (x_call (x_cons (x_var rfl) (x_cons x_c x_nil)) e5) add_ok) x_nil))) e6) x_nil)) (right3_ok w6 hC hx (by omega))))) rfl
def ringK : Alph := ⟨3, [("pq", [0, 1]), ("pr", [0, 2]), ("qr", [1, 2])]⟩
theorem ringK_ok : AlphOk ringK :=
  ⟨by decide, by decide, by decide, by decide, by
    intro r hr
    simp only [ringK, List.mem_cons, List.not_mem_nil, or_false] at hr
    rcases hr with rfl | rfl | rfl <;> exact ⟨by decide, by decide, by decide⟩, by
    intro r hr
    simp only [ringK, List.mem_cons, List.not_mem_nil, or_false] at hr
    rcases hr with rfl | rfl | rfl <;> exact ⟨by decide, by decide, by decide, by decide⟩, by
    simp only [ringK, List.map_cons, List.map_nil]
    decide⟩
def fullK : Alph := ⟨5, [("all", [0, 1, 2, 3, 4]), ("one", [3]), ("two", [0, 4])]⟩
theorem fullK_ok : AlphOk fullK :=
  ⟨by decide, by decide, by decide, by decide, by
    intro r hr
    simp only [fullK, List.mem_cons, List.not_mem_nil, or_false] at hr
    rcases hr with rfl | rfl | rfl <;> exact ⟨by decide, by decide, by decide⟩, by
    intro r hr
    simp only [fullK, List.mem_cons, List.not_mem_nil, or_false] at hr
    rcases hr with rfl | rfl | rfl <;> exact ⟨by decide, by decide, by decide, by decide⟩, by
    simp only [fullK, List.map_cons, List.map_nil]
    decide⟩
def lineK : Alph := ⟨3, [("own", [0]), ("pq", [0, 1]), ("qr", [1, 2])]⟩
theorem lineK_ok : AlphOk lineK :=
  ⟨by decide, by decide, by decide, by decide, by
    intro r hr
    simp only [lineK, List.mem_cons, List.not_mem_nil, or_false] at hr
    rcases hr with rfl | rfl | rfl <;> exact ⟨by decide, by decide, by decide⟩, by
    intro r hr
    simp only [lineK, List.mem_cons, List.not_mem_nil, or_false] at hr
    rcases hr with rfl | rfl | rfl <;> exact ⟨by decide, by decide, by decide, by decide⟩, by
    simp only [lineK, List.map_cons, List.map_nil]
    decide⟩
def ringW : List Str := ["pq", "qr", "pr", "pq", "pq", "qr", "pr", "pq", "pq", "qr", "pr", "pq"]
theorem ringW_ok : IsWord ringK ringW := ⟨by decide, by decide⟩
def fullW : List Str := ["one", "two", "all", "one", "one", "two"]
theorem fullW_ok : IsWord fullK fullW := ⟨by decide, by decide⟩
def lineW : List Str := ["qr", "own", "own", "own", "pq"]
theorem lineW_ok : IsWord lineK lineW := ⟨by decide, by decide⟩
theorem closing (w : WF S) (o0 o1 o2 o3 o4 o5 o6 : Option D) : (sSeq (sSet (.nm 4) (eTup (aCons (eC (.int 3)) (aCons (eTup (aCons (eTup (aCons (eC (.str "pq")) (aCons (eTup (aCons (eC (.int 0)) (aCons (eC (.int 1)) aNil))) aNil))) (aCons (eTup (aCons (eC (.str "pr")) (aCons (eTup (aCons (eC (.int 0)) (aCons (eC (.int 2)) aNil))) aNil))) (aCons (eTup (aCons (eC (.str "qr")) (aCons (eTup (aCons (eC (.int 1)) (aCons (eC (.int 2)) aNil))) aNil))) aNil)))) aNil)))) (sSeq (sSet (.nm 5) (eTup (aCons (eC (.int 5)) (aCons (eTup (aCons (eTup (aCons (eC (.str "all")) (aCons (eTup (aCons (eC (.int 0)) (aCons (eC (.int 1)) (aCons (eC (.int 2)) (aCons (eC (.int 3)) (aCons (eC (.int 4)) aNil)))))) aNil))) (aCons (eTup (aCons (eC (.str "one")) (aCons (eTup (aCons (eC (.int 3)) aNil)) aNil))) (aCons (eTup (aCons (eC (.str "two")) (aCons (eTup (aCons (eC (.int 0)) (aCons (eC (.int 4)) aNil))) aNil))) aNil)))) aNil)))) (sSeq (sIf (bNot (bVal (eCallD M.f_law_right_v3 [] (aCons (eVar 5) (aCons (eTup (aCons (eC (.str "one")) (aCons (eC (.str "two")) (aCons (eC (.str "all")) (aCons (eC (.str "one")) (aCons (eC (.str "one")) (aCons (eC (.str "two")) aNil))))))) aNil))))) (sRet (eC (.bl false))) sNext) (sSeq (sSet (.nm 6) (eTup (aCons (eC (.int 3)) (aCons (eTup (aCons (eTup (aCons (eC (.str "own")) (aCons (eTup (aCons (eC (.int 0)) aNil)) aNil))) (aCons (eTup (aCons (eC (.str "pq")) (aCons (eTup (aCons (eC (.int 0)) (aCons (eC (.int 1)) aNil))) aNil))) (aCons (eTup (aCons (eC (.str "qr")) (aCons (eTup (aCons (eC (.int 1)) (aCons (eC (.int 2)) aNil))) aNil))) aNil)))) aNil)))) (sSeq (sIf (bNot (bVal (eCallD M.f_law_right_v3 [] (aCons (eVar 6) (aCons (eTup (aCons (eC (.str "qr")) (aCons (eC (.str "own")) (aCons (eC (.str "own")) (aCons (eC (.str "own")) (aCons (eC (.str "pq")) aNil)))))) aNil))))) (sRet (eC (.bl false))) sNext) (sRet (eCallD M.f_law_right_v3 [] (aCons (eVar 4) (aCons (eBin .Mult (eTup (aCons (eC (.str "pq")) (aCons (eC (.str "qr")) (aCons (eC (.str "pr")) (aCons (eC (.str "pq")) aNil))))) (eC (.int 3))) aNil)))))))))
    [o0, o1, o2, o3, o4, o5, o6] S = .rt (.bl true) S := by
  have e4 : (sSet (.nm 4) (eTup (aCons (eC (.int 3)) (aCons (eTup (aCons (eTup (aCons (eC (.str "pq")) (aCons (eTup (aCons (eC (.int 0)) (aCons (eC (.int 1)) aNil))) aNil))) (aCons (eTup (aCons (eC (.str "pr")) (aCons (eTup (aCons (eC (.int 0)) (aCons (eC (.int 2)) aNil))) aNil))) (aCons (eTup (aCons (eC (.str "qr")) (aCons (eTup (aCons (eC (.int 1)) (aCons (eC (.int 2)) aNil))) aNil))) aNil)))) aNil)))) [o0, o1, o2, o3, o4, o5, o6] S = .nx [o0, o1, o2, o3, some ringK.d, o5, o6] S := by rfl
  have e5 : (sSet (.nm 5) (eTup (aCons (eC (.int 5)) (aCons (eTup (aCons (eTup (aCons (eC (.str "all")) (aCons (eTup (aCons (eC (.int 0)) (aCons (eC (.int 1)) (aCons (eC (.int 2)) (aCons (eC (.int 3)) (aCons (eC (.int 4)) aNil)))))) aNil))) (aCons (eTup (aCons (eC (.str "one")) (aCons (eTup (aCons (eC (.int 3)) aNil)) aNil))) (aCons (eTup (aCons (eC (.str "two")) (aCons (eTup (aCons (eC (.int 0)) (aCons (eC (.int 4)) aNil))) aNil))) aNil)))) aNil)))) [o0, o1, o2, o3, some ringK.d, o5, o6] S = .nx [o0, o1, o2, o3, some ringK.d, some fullK.d, o6] S := by rfl
  have e6 : (sSet (.nm 6) (eTup (aCons (eC (.int 3)) (aCons (eTup (aCons (eTup (aCons (eC (.str "own")) (aCons (eTup (aCons (eC (.int 0)) aNil)) aNil))) (aCons (eTup (aCons (eC (.str "pq")) (aCons (eTup (aCons (eC (.int 0)) (aCons (eC (.int 1)) aNil))) aNil))) (aCons (eTup (aCons (eC (.str "qr")) (aCons (eTup (aCons (eC (.int 1)) (aCons (eC (.int 2)) aNil))) aNil))) aNil)))) aNil)))) [o0, o1, o2, o3, some ringK.d, some fullK.d, o6] S = .nx [o0, o1, o2, o3, some ringK.d, some fullK.d, some lineK.d] S := by rfl
  have sz : ∀ {n : Nat}, n ≤ 100 → n ≤ sizeLine := fun hn => size_le (by omega)
  have r1 := right3_ok w fullK_ok fullW_ok (by decide)
  have r2 := right3_ok w lineK_ok lineW_ok (by decide)
  have r3 := right3_ok w ringK_ok ringW_ok (by decide)
  have w4 : binD .Mult (.tup [.str "pq", .str "qr", .str "pr", .str "pq"]) (.int 3) S = .ok (wordD ringW) S := by rfl
  refine s_seqN e4 (s_seqN e5 (s_seqN (s_ifF (y_not (y_val (x_call (x_cons (x_var rfl) (x_cons (x_tup (x_cons x_c (x_cons x_c (x_cons x_c (x_cons x_c (x_cons x_c (x_cons x_c x_nil)))))) (sz (by simp))) x_nil)) r1))) rfl) (s_seqN e6 (s_seqN (s_ifF (y_not (y_val (x_call (x_cons (x_var rfl) (x_cons (x_tup (x_cons x_c (x_cons x_c (x_cons x_c (x_cons x_c (x_cons x_c x_nil))))) (sz (by simp))) x_nil)) r2))) rfl) (s_ret (x_call (x_cons (x_var rfl) (x_cons (x_binK (x_tup (x_cons x_c (x_cons x_c (x_cons x_c (x_cons x_c x_nil)))) (sz (by simp))) x_c w4) x_nil)) r3))))))
theorem k39 (ns : List Int) : ∃ S, M.f_law_K39 [.scr (ns.map D.int)] [] = .ok (.bl true) S := by
  have go : ∃ S1, M.m_law_K39 [some (.scr (ns.map D.int)), none, none, none, none, none, none] [] = .rt (.bl true) S1 := by
    obtain ⟨c, hc, hit⟩ := cells (S := []) ns 6 (by decide) (by decide) (ρ := [some (.scr (ns.map D.int)), none, none, none, none, none, none]) rfl
    obtain ⟨o1, o2, o3, o4, o5, o6, S1, e, w⟩ := sFor_inv (T := .nm 1) (b := turnK) (ρ := [some (.scr (ns.map D.int)), none, none, none, none, none, none]) (its := rangeD 0 c)
      (fun i ρ X => ∃ o1 o2 o3 o4 o5 o6, ρ = [some (.scr (ns.map D.int)), o1, o2, o3, o4, o5, o6] ∧ WF X)
      (fun r => ∃ o1 o2 o3 o4 o5 o6 S1, r = .nx [some (.scr (ns.map D.int)), o1, o2, o3, o4, o5, o6] S1 ∧ WF S1)
      hit rfl ⟨_, _, _, _, _, _, rfl, WF.nil⟩ (by
        rintro i d ρ X hd ⟨o1, o2, o3, o4, o5, o6, rfl, w⟩
        obtain ⟨rfl, hlt⟩ := range_at hd
        obtain ⟨p2, p3, S1, e, w1⟩ := turn_body (S := X) ns (i := i) (by omega) w o2 o3 o4 o5 o6
        refine ⟨[some (.scr (ns.map D.int)), some (.int (i : Int)), o2, o3, o4, o5, o6], rfl, ?_⟩
        rw [e]
        exact ⟨_, _, _, _, _, _, rfl, w1⟩) (by
        rintro ρ X ⟨o1, o2, o3, o4, o5, o6, rfl, w⟩
        exact ⟨_, _, _, _, _, _, _, rfl, w⟩)
    exact ⟨S1, s_seqN e (closing w _ _ _ _ _ _ _)⟩
  obtain ⟨S1, e⟩ := go
  exact ⟨[], fn_ret rfl e rfl List.take_zero rfl⟩
end
end A1
end
section
namespace K39
open PySem PL
theorem plain (ns : List Int) (_ : ns.length ≤ 63) (_ : ∀ i ∈ ns, Builtin.Int.intBits i ≤ 1048576) : ∃ S, M.f_law_K39 [.scr (ns.map D.int)] [] = .ok (.bl true) S := A1.k39 ns
end K39
end
set_option Elab.async false
set_option linter.all false
set_option maxRecDepth 100000
set_option maxHeartbeats 0
set_option autoImplicit false
/-! meetwatch_k39_news_tables_met: the head (printed by gen_law.py). -/
namespace K39
open PySem PySem.Spec PyProof.Rows L2 PL
def D_is_integer : He.DefD := ⟨("is_integer", none), "is_integer", "is_integer", defArgs (top 10), defBody (top 10), defScope (top 10), [], []⟩
def D_is_between : He.DefD := ⟨("is_between", none), "is_between", "is_between", defArgs (top 11), defBody (top 11), defScope (top 11), [], []⟩
def D_is_name : He.DefD := ⟨("is_name", none), "is_name", "is_name", defArgs (top 12), defBody (top 12), defScope (top 12), [], []⟩
def D_is_ascending : He.DefD := ⟨("is_ascending", none), "is_ascending", "is_ascending", defArgs (top 13), defBody (top 13), defScope (top 13), [], []⟩
def D_are_processes : He.DefD := ⟨("are_processes", none), "are_processes", "are_processes", defArgs (top 14), defBody (top 14), defScope (top 14), [], []⟩
def D_is_set_of : He.DefD := ⟨("is_set_of", none), "is_set_of", "is_set_of", defArgs (top 15), defBody (top 15), defScope (top 15), [], []⟩
def D_is_row : He.DefD := ⟨("is_row", none), "is_row", "is_row", defArgs (top 16), defBody (top 16), defScope (top 16), [], []⟩
def D_is_alphabet : He.DefD := ⟨("is_alphabet", none), "is_alphabet", "is_alphabet", defArgs (top 17), defBody (top 17), defScope (top 17), [], []⟩
def D_require_alphabet : He.DefD := ⟨("require_alphabet", none), "require_alphabet", "require_alphabet", defArgs (top 18), defBody (top 18), defScope (top 18), [], []⟩
def D_letters_in : He.DefD := ⟨("letters_in", none), "letters_in", "letters_in", defArgs (top 19), defBody (top 19), defScope (top 19), [], []⟩
def D_places_in : He.DefD := ⟨("places_in", none), "places_in", "places_in", defArgs (top 20), defBody (top 20), defScope (top 20), [], []⟩
def D_place_in : He.DefD := ⟨("place_in", none), "place_in", "place_in", defArgs (top 21), defBody (top 21), defScope (top 21), [], []⟩
def D_is_letter_in : He.DefD := ⟨("is_letter_in", none), "is_letter_in", "is_letter_in", defArgs (top 22), defBody (top 22), defScope (top 22), [], []⟩
def D_require_letter : He.DefD := ⟨("require_letter", none), "require_letter", "require_letter", defArgs (top 23), defBody (top 23), defScope (top 23), [], []⟩
def D_zero_table : He.DefD := ⟨("zero_table", none), "zero_table", "zero_table", defArgs (top 25), defBody (top 25), defScope (top 25), [], []⟩
def D_is_clock_in : He.DefD := ⟨("is_clock_in", none), "is_clock_in", "is_clock_in", defArgs (top 26), defBody (top 26), defScope (top 26), [], []⟩
def D_is_table_in : He.DefD := ⟨("is_table_in", none), "is_table_in", "is_table_in", defArgs (top 27), defBody (top 27), defScope (top 27), [], []⟩
def D_newest_in : He.DefD := ⟨("newest_in", none), "newest_in", "newest_in", defArgs (top 28), defBody (top 28), defScope (top 28), [], []⟩
def D_met_in : He.DefD := ⟨("met_in", none), "met_in", "met_in", defArgs (top 29), defBody (top 29), defScope (top 29), [], []⟩
def D_first_table : He.DefD := ⟨("first_table", none), "first_table", "first_table", defArgs (top 30), defBody (top 30), defScope (top 30), [], []⟩
def D_met_tables : He.DefD := ⟨("met_tables", none), "met_tables", "met_tables", defArgs (top 31), defBody (top 31), defScope (top 31), [], []⟩
def D_law_stream : He.DefD := ⟨("_law_stream", none), "_law_stream", "_law_stream", defArgs (top 33), defBody (top 33), defScope (top 33), [], []⟩
def D_law_draw : He.DefD := ⟨("_law_draw", none), "_law_draw", "_law_draw", defArgs (top 34), defBody (top 34), defScope (top 34), [], []⟩
def D_law_pick : He.DefD := ⟨("_law_pick", none), "_law_pick", "_law_pick", defArgs (top 35), defBody (top 35), defScope (top 35), [], []⟩
def D_law_alphabet : He.DefD := ⟨("_law_alphabet", none), "_law_alphabet", "_law_alphabet", defArgs (top 36), defBody (top 36), defScope (top 36), [], []⟩
def D_law_meeting_alphabet : He.DefD := ⟨("_law_meeting_alphabet", none), "_law_meeting_alphabet", "_law_meeting_alphabet", defArgs (top 37), defBody (top 37), defScope (top 37), [], []⟩
def D_law_places : He.DefD := ⟨("_law_places", none), "_law_places", "_law_places", defArgs (top 38), defBody (top 38), defScope (top 38), [], []⟩
def D_law_word : He.DefD := ⟨("_law_word", none), "_law_word", "_law_word", defArgs (top 39), defBody (top 39), defScope (top 39), [], []⟩
def D_law_meet : He.DefD := ⟨("_law_meet", none), "_law_meet", "_law_meet", defArgs (top 40), defBody (top 40), defScope (top 40), [], []⟩
def D_law_pasts : He.DefD := ⟨("_law_pasts", none), "_law_pasts", "_law_pasts", defArgs (top 41), defBody (top 41), defScope (top 41), [], []⟩
def D_law_last : He.DefD := ⟨("_law_last", none), "_law_last", "_law_last", defArgs (top 42), defBody (top 42), defScope (top 42), [], []⟩
def D_law_view : He.DefD := ⟨("_law_view", none), "_law_view", "_law_view", defArgs (top 43), defBody (top 43), defScope (top 43), [], []⟩
def D_law_counts : He.DefD := ⟨("_law_counts", none), "_law_counts", "_law_counts", defArgs (top 44), defBody (top 44), defScope (top 44), [], []⟩
def D_law_table : He.DefD := ⟨("_law_table", none), "_law_table", "_law_table", defArgs (top 45), defBody (top 45), defScope (top 45), [], []⟩
def D_law_right : He.DefD := ⟨("_law_right", none), "_law_right", "_law_right", defArgs (top 46), defBody (top 46), defScope (top 46), [], []⟩
def D_law : He.DefD := ⟨("law", none), "law", "law", defArgs (top 47), defBody (top 47), defScope (top 47), [], []⟩
def fn : List He.DefD := [D_is_integer, D_is_between, D_is_name, D_is_ascending, D_are_processes, D_is_set_of, D_is_row, D_is_alphabet, D_require_alphabet, D_letters_in, D_places_in, D_place_in, D_is_letter_in, D_require_letter, D_zero_table, D_is_clock_in, D_is_table_in, D_newest_in, D_met_in, D_first_table, D_met_tables, D_law_stream, D_law_draw, D_law_pick, D_law_alphabet, D_law_meeting_alphabet, D_law_places, D_law_word, D_law_meet, D_law_pasts, D_law_last, D_law_view, D_law_counts, D_law_table, D_law_right, D_law]
def fa : List He.Fa := [.glo "is_integer", .glo "is_between", .glo "is_name", .glo "is_ascending", .glo "are_processes", .glo "is_set_of", .glo "is_row", .glo "is_alphabet", .glo "require_alphabet", .glo "letters_in", .glo "places_in", .glo "place_in", .glo "is_letter_in", .glo "require_letter", .glo "zero_table", .glo "is_clock_in", .glo "is_table_in", .glo "newest_in", .glo "met_in", .glo "first_table", .glo "met_tables", .glo "_law_stream", .glo "_law_draw", .glo "_law_pick", .glo "_law_alphabet", .glo "_law_meeting_alphabet", .glo "_law_places", .glo "_law_word", .glo "_law_meet", .glo "_law_pasts", .glo "_law_last", .glo "_law_view", .glo "_law_counts", .glo "_law_table", .glo "_law_right", .glo "law", .free "len", .free "isinstance", .free "all", .free "any", .free "tuple", .free "list", .free "sorted", .free "repr", .free "max", .free "min", .free "int", .free "bool", .free "abs", .free "sum", .free "dict", .free "str", .free "range", .free "enumerate", .free "zip", .free "set", .free "super", .int "MAX_PROCESSES" 5, .int "MAX_LETTERS" 10, .int "MAX_NAME" 8, .str "SIGNS" "abcdefghijklmnopqrstuvwxyz"]
abbrev R : PySem.W.OpenRow := PySem.W.OpenLaw.row PySem.Challenge.rw_meetwatch_k39_news_tables_met
abbrev hk : PySem.W.Hook := He.hookD 4 fa fn
def ob (s : PySem.W.SharedT) : He.AlD := He.obsDG 4 fa fn (HandSHeadRun.getT s)
theorem ob_eq (s : PySem.W.SharedT) : ob s = hk.obs s.abs := He.obsDG_eq (HandSHeadRun.getT_eq s)
def names0 : List PySem.Str := ["WatchError", "InvalidAlphabet", "InvalidMemory", "UnknownName", "MAX_PROCESSES", "MAX_LETTERS", "MAX_NAME", "SIGNS", "is_integer", "is_between", "is_name", "is_ascending", "are_processes", "is_set_of", "is_row", "is_alphabet", "require_alphabet", "letters_in", "places_in", "place_in"]
def names1 : List PySem.Str := ["is_letter_in", "require_letter", "zero_table", "is_clock_in", "is_table_in", "newest_in", "met_in", "first_table", "met_tables", "_law_stream", "_law_draw", "_law_pick", "_law_alphabet", "_law_meeting_alphabet", "_law_places", "_law_word", "_law_meet", "_law_pasts", "_law_last", "_law_view"]
def names2 : List PySem.Str := ["_law_counts", "_law_table", "_law_right"]
def names : List PySem.Str := names0 ++ names1 ++ names2
theorem run (w : World) : HandSHeadRun.RunEq R (PySem.W.view R.prog [47]) hk ob 4000 names w := by
  intro os
  kernel_rfl
section
variable {P : Program} {w : World} {K : PySem.W.Frag} {h : Heap} {mg : Str → Option Value}
theorem blt_free (X : K.In h) (G : h.Ns mainGlobals mg) (c : He.SaysD fa fn K) : ∀ x ∈ bltNames, mg x = none := by
  intro x hx
  simp only [bltNames, List.mem_cons, List.not_mem_nil, or_false] at hx
  rcases hx with rfl | rfl | rfl | rfl | rfl | rfl | rfl | rfl | rfl | rfl | rfl | rfl | rfl | rfl | rfl | rfl | rfl | rfl | rfl | rfl | rfl
  · exact He.free_ok X G (c.fact 36 (f := .free "len") rfl)
  · exact He.free_ok X G (c.fact 37 (f := .free "isinstance") rfl)
  · exact He.free_ok X G (c.fact 38 (f := .free "all") rfl)
  · exact He.free_ok X G (c.fact 39 (f := .free "any") rfl)
  · exact He.free_ok X G (c.fact 40 (f := .free "tuple") rfl)
  · exact He.free_ok X G (c.fact 41 (f := .free "list") rfl)
  · exact He.free_ok X G (c.fact 42 (f := .free "sorted") rfl)
  · exact He.free_ok X G (c.fact 43 (f := .free "repr") rfl)
  · exact He.free_ok X G (c.fact 44 (f := .free "max") rfl)
  · exact He.free_ok X G (c.fact 45 (f := .free "min") rfl)
  · exact He.free_ok X G (c.fact 46 (f := .free "int") rfl)
  · exact He.free_ok X G (c.fact 47 (f := .free "bool") rfl)
  · exact He.free_ok X G (c.fact 48 (f := .free "abs") rfl)
  · exact He.free_ok X G (c.fact 49 (f := .free "sum") rfl)
  · exact He.free_ok X G (c.fact 50 (f := .free "dict") rfl)
  · exact He.free_ok X G (c.fact 51 (f := .free "str") rfl)
  · exact He.free_ok X G (c.fact 52 (f := .free "range") rfl)
  · exact He.free_ok X G (c.fact 53 (f := .free "enumerate") rfl)
  · exact He.free_ok X G (c.fact 54 (f := .free "zip") rfl)
  · exact He.free_ok X G (c.fact 55 (f := .free "set") rfl)
  · exact He.free_ok X G (c.fact 56 (f := .free "super") rfl)
theorem cs_ok (X : K.In h) (G : h.Ns mainGlobals mg) (c : He.SaysD fa fn K) : ∀ x d, cs.lookup x = some d → ∃ u v, mg x = some u ∧ RelV v u ∧ Flat d v := by
  intro x d hx
  have hm := lookup_mem hx
  simp only [cs, List.mem_cons, Prod.mk.injEq, List.not_mem_nil, or_false] at hm
  rcases hm with ⟨rfl, rfl⟩ | ⟨rfl, rfl⟩ | ⟨rfl, rfl⟩ | ⟨rfl, rfl⟩
  · obtain ⟨t, e⟩ := He.int_ok X G (c.fact 57 (f := .int "MAX_PROCESSES" 5) rfl); exact ⟨_, V.int 5, e, ⟨t, rfl⟩, .int _⟩
  · obtain ⟨t, e⟩ := He.int_ok X G (c.fact 58 (f := .int "MAX_LETTERS" 10) rfl); exact ⟨_, V.int 10, e, ⟨t, rfl⟩, .int _⟩
  · obtain ⟨t, e⟩ := He.int_ok X G (c.fact 59 (f := .int "MAX_NAME" 8) rfl); exact ⟨_, V.int 8, e, ⟨t, rfl⟩, .int _⟩
  · obtain ⟨t, e⟩ := He.str_ok X G (c.fact 60 (f := .str "SIGNS" "abcdefghijklmnopqrstuvwxyz") rfl); exact ⟨_, V.str "abcdefghijklmnopqrstuvwxyz", e, ⟨t, rfl⟩, .str _⟩
theorem facts {f : Addr} (X : K.In h) (G : h.Ns mainGlobals mg) (hfa : mg ("law" : Str) = some (.ref f)) (c : He.SaysD fa fn K) : ∃ fd : FuncData, LawFn P w K mg 10 f fd "_law_script" M.f_law_K39 := by
  have hb := blt_free X G c
  have hc := cs_ok X G c
  have G0 : ∀ (base : Heap) (k : Nat), GOk P w K mg base ⟨[], cs⟩ k := fun base k => GOk.base0 hc hb
  obtain ⟨fd0, F0⟩ := c.def_ 0 (d := D_is_integer) rfl
  have T0 : ∀ base : Heap, FnFact P w K mg base "is_integer" e_is_integer := fun base => fn_factD (N := ["value"]) (ps := ["value"]) F0 (He.glo_ok X G (c.fact 0 (f := .glo "is_integer") rfl)) (by decide +kernel) (G0 base 0) (fun _ _ _ _ _ _ us hl => match us, hl with | [_], _ => rfl) d_is_integer
  obtain ⟨fd1, F1⟩ := c.def_ 1 (d := D_is_between) rfl
  have T1 : ∀ base : Heap, FnFact P w K mg base "is_between" e_is_between := fun base => fn_factD (N := ["value", "low", "high"]) (ps := ["value", "low", "high"]) F1 (He.glo_ok X G (c.fact 1 (f := .glo "is_between") rfl)) (by decide +kernel) ((G0 base 1).cons (T0 base) (Nat.le_refl _) (by decide)) (fun _ _ _ _ _ _ us hl => match us, hl with | [_, _, _], _ => rfl) d_is_between
  obtain ⟨fd2, F2⟩ := c.def_ 2 (d := D_is_name) rfl
  have T2 : ∀ base : Heap, FnFact P w K mg base "is_name" e_is_name := fun base => fn_factD (N := ["value", "sign"]) (ps := ["value"]) F2 (He.glo_ok X G (c.fact 2 (f := .glo "is_name") rfl)) (by decide +kernel) (G0 base 0) (fun _ _ _ _ _ _ us hl => match us, hl with | [_], _ => rfl) d_is_name
  obtain ⟨fd3, F3⟩ := c.def_ 3 (d := D_is_ascending) rfl
  have T3 : ∀ base : Heap, FnFact P w K mg base "is_ascending" e_is_ascending := fun base => fn_factD (N := ["items", "one", "other"]) (ps := ["items"]) F3 (He.glo_ok X G (c.fact 3 (f := .glo "is_ascending") rfl)) (by decide +kernel) (G0 base 0) (fun _ _ _ _ _ _ us hl => match us, hl with | [_], _ => rfl) d_is_ascending
  obtain ⟨fd4, F4⟩ := c.def_ 4 (d := D_are_processes) rfl
  have T4 : ∀ base : Heap, FnFact P w K mg base "are_processes" e_are_processes := fun base => fn_factD (N := ["many", "value", "process"]) (ps := ["many", "value"]) F4 (He.glo_ok X G (c.fact 4 (f := .glo "are_processes") rfl)) (by decide +kernel) ((G0 base 2).cons (T1 base) (Nat.le_refl _) (by decide)) (fun _ _ _ _ _ _ us hl => match us, hl with | [_, _], _ => rfl) d_are_processes
  obtain ⟨fd5, F5⟩ := c.def_ 5 (d := D_is_set_of) rfl
  have T5 : ∀ base : Heap, FnFact P w K mg base "is_set_of" e_is_set_of := fun base => fn_factD (N := ["many", "value"]) (ps := ["many", "value"]) F5 (He.glo_ok X G (c.fact 5 (f := .glo "is_set_of") rfl)) (by decide +kernel) (((G0 base 3).cons (T3 base) (Nat.le_refl _) (by decide)).cons (T4 base) (Nat.le_refl _) (by decide)) (fun _ _ _ _ _ _ us hl => match us, hl with | [_, _], _ => rfl) d_is_set_of
  obtain ⟨fd6, F6⟩ := c.def_ 6 (d := D_is_row) rfl
  have T6 : ∀ base : Heap, FnFact P w K mg base "is_row" e_is_row := fun base => fn_factD (N := ["many", "value"]) (ps := ["many", "value"]) F6 (He.glo_ok X G (c.fact 6 (f := .glo "is_row") rfl)) (by decide +kernel) (((G0 base 4).cons (T5 base) (Nat.le_refl _) (by decide)).cons (T2 base) (Nat.le_refl _) (by decide)) (fun _ _ _ _ _ _ us hl => match us, hl with | [_, _], _ => rfl) d_is_row
  obtain ⟨fd7, F7⟩ := c.def_ 7 (d := D_is_alphabet) rfl
  have T7 : ∀ base : Heap, FnFact P w K mg base "is_alphabet" e_is_alphabet := fun base => fn_factD (N := ["value", "many", "rows", "row", "letter", "place"]) (ps := ["value"]) F7 (He.glo_ok X G (c.fact 7 (f := .glo "is_alphabet") rfl)) (by decide +kernel) ((((G0 base 5).cons (T6 base) (Nat.le_refl _) (by decide)).cons (T1 base) (Nat.le_refl _) (by decide)).cons (T3 base) (Nat.le_refl _) (by decide)) (fun _ _ _ _ _ _ us hl => match us, hl with | [_], _ => rfl) d_is_alphabet
  obtain ⟨fd8, F8⟩ := c.def_ 8 (d := D_require_alphabet) rfl
  have T8 : ∀ base : Heap, FnFact P w K mg base "require_alphabet" e_require_alphabet := fun base => fn_factD (N := ["alphabet"]) (ps := ["alphabet"]) F8 (He.glo_ok X G (c.fact 8 (f := .glo "require_alphabet") rfl)) (by decide +kernel) ((G0 base 6).cons (T7 base) (Nat.le_refl _) (by decide)) (fun _ _ _ _ _ _ us hl => match us, hl with | [_], _ => rfl) d_require_alphabet
  obtain ⟨fd9, F9⟩ := c.def_ 9 (d := D_letters_in) rfl
  have T9 : ∀ base : Heap, FnFact P w K mg base "letters_in" e_letters_in := fun base => fn_factD (N := ["alphabet", "letter", "place"]) (ps := ["alphabet"]) F9 (He.glo_ok X G (c.fact 9 (f := .glo "letters_in") rfl)) (by decide +kernel) (G0 base 0) (fun _ _ _ _ _ _ us hl => match us, hl with | [_], _ => rfl) d_letters_in
  obtain ⟨fd10, F10⟩ := c.def_ 10 (d := D_places_in) rfl
  have T10 : ∀ base : Heap, FnFact P w K mg base "places_in" e_places_in := fun base => fn_factD (N := ["alphabet", "letter", "place"]) (ps := ["alphabet"]) F10 (He.glo_ok X G (c.fact 10 (f := .glo "places_in") rfl)) (by decide +kernel) (G0 base 0) (fun _ _ _ _ _ _ us hl => match us, hl with | [_], _ => rfl) d_places_in
  obtain ⟨fd11, F11⟩ := c.def_ 11 (d := D_place_in) rfl
  have T11 : ∀ base : Heap, FnFact P w K mg base "place_in" e_place_in := fun base => fn_factD (N := ["alphabet", "letter"]) (ps := ["alphabet", "letter"]) F11 (He.glo_ok X G (c.fact 11 (f := .glo "place_in") rfl)) (by decide +kernel) ((G0 base 1).cons (T10 base) (Nat.le_refl _) (by decide)) (fun _ _ _ _ _ _ us hl => match us, hl with | [_, _], _ => rfl) d_place_in
  obtain ⟨fd12, F12⟩ := c.def_ 12 (d := D_is_letter_in) rfl
  have T12 : ∀ base : Heap, FnFact P w K mg base "is_letter_in" e_is_letter_in := fun base => fn_factD (N := ["alphabet", "value"]) (ps := ["alphabet", "value"]) F12 (He.glo_ok X G (c.fact 12 (f := .glo "is_letter_in") rfl)) (by decide +kernel) ((G0 base 1).cons (T9 base) (Nat.le_refl _) (by decide)) (fun _ _ _ _ _ _ us hl => match us, hl with | [_, _], _ => rfl) d_is_letter_in
  obtain ⟨fd13, F13⟩ := c.def_ 13 (d := D_require_letter) rfl
  have T13 : ∀ base : Heap, FnFact P w K mg base "require_letter" e_require_letter := fun base => fn_factD (N := ["alphabet", "letter"]) (ps := ["alphabet", "letter"]) F13 (He.glo_ok X G (c.fact 13 (f := .glo "require_letter") rfl)) (by decide +kernel) ((G0 base 2).cons (T12 base) (Nat.le_refl _) (by decide)) (fun _ _ _ _ _ _ us hl => match us, hl with | [_, _], _ => rfl) d_require_letter
  obtain ⟨fd14, F14⟩ := c.def_ 14 (d := D_zero_table) rfl
  have T14 : ∀ base : Heap, FnFact P w K mg base "zero_table" e_zero_table := fun base => fn_factD (N := ["many", "zeros"]) (ps := ["many"]) F14 (He.glo_ok X G (c.fact 14 (f := .glo "zero_table") rfl)) (by decide +kernel) (G0 base 0) (fun _ _ _ _ _ _ us hl => match us, hl with | [_], _ => rfl) d_zero_table
  obtain ⟨fd15, F15⟩ := c.def_ 15 (d := D_is_clock_in) rfl
  have T15 : ∀ base : Heap, FnFact P w K mg base "is_clock_in" e_is_clock_in := fun base => fn_factD (N := ["many", "value", "count"]) (ps := ["many", "value"]) F15 (He.glo_ok X G (c.fact 15 (f := .glo "is_clock_in") rfl)) (by decide +kernel) ((G0 base 1).cons (T0 base) (Nat.le_refl _) (by decide)) (fun _ _ _ _ _ _ us hl => match us, hl with | [_, _], _ => rfl) d_is_clock_in
  obtain ⟨fd16, F16⟩ := c.def_ 16 (d := D_is_table_in) rfl
  have T16 : ∀ base : Heap, FnFact P w K mg base "is_table_in" e_is_table_in := fun base => fn_factD (N := ["many", "value", "clock"]) (ps := ["many", "value"]) F16 (He.glo_ok X G (c.fact 16 (f := .glo "is_table_in") rfl)) (by decide +kernel) ((G0 base 2).cons (T15 base) (Nat.le_refl _) (by decide)) (fun _ _ _ _ _ _ us hl => match us, hl with | [_, _], _ => rfl) d_is_table_in
  obtain ⟨fd17, F17⟩ := c.def_ 17 (d := D_newest_in) rfl
  have T17 : ∀ base : Heap, FnFact P w K mg base "newest_in" e_newest_in := fun base => fn_factD (N := ["tables", "process", "found", "at", "table"]) (ps := ["tables", "process"]) F17 (He.glo_ok X G (c.fact 17 (f := .glo "newest_in") rfl)) (by decide +kernel) (G0 base 0) (fun _ _ _ _ _ _ us hl => match us, hl with | [_, _], _ => rfl) d_newest_in
  obtain ⟨fd18, F18⟩ := c.def_ 18 (d := D_met_in) rfl
  have T18 : ∀ base : Heap, FnFact P w K mg base "met_in" e_met_in := fun base => fn_factD (N := ["many", "place", "tables", "holders", "clock", "clocks", "process"]) (ps := ["many", "place", "tables"]) F18 (He.glo_ok X G (c.fact 18 (f := .glo "met_in") rfl)) (by decide +kernel) ((G0 base 1).cons (T17 base) (Nat.le_refl _) (by decide)) (fun _ _ _ _ _ _ us hl => match us, hl with | [_, _, _], _ => rfl) d_met_in
  obtain ⟨fd19, F19⟩ := c.def_ 19 (d := D_first_table) rfl
  have T19 : ∀ base : Heap, FnFact P w K mg base "first_table" e_first_table := fun base => fn_factD (N := ["alphabet"]) (ps := ["alphabet"]) F19 (He.glo_ok X G (c.fact 19 (f := .glo "first_table") rfl)) (by decide +kernel) (((G0 base 7).cons (T14 base) (Nat.le_refl _) (by decide)).cons (T8 base) (Nat.le_refl _) (by decide)) (fun _ _ _ _ _ _ us hl => match us, hl with | [_], _ => rfl) d_first_table
  obtain ⟨fd20, F20⟩ := c.def_ 20 (d := D_met_tables) rfl
  have T20 : ∀ base : Heap, FnFact P w K mg base "met_tables" e_met_tables := fun base => fn_factD (N := ["alphabet", "letter", "tables", "many", "place", "table"]) (ps := ["alphabet", "letter", "tables"]) F20 (He.glo_ok X G (c.fact 20 (f := .glo "met_tables") rfl)) (by decide +kernel) ((((((G0 base 7).cons (T13 base) (Nat.le_refl _) (by decide)).cons (T8 base) (Nat.le_refl _) (by decide)).cons (T11 base) (Nat.le_refl _) (by decide)).cons (T18 base) (Nat.le_refl _) (by decide)).cons (T16 base) (Nat.le_refl _) (by decide)) (fun _ _ _ _ _ _ us hl => match us, hl with | [_, _, _], _ => rfl) d_met_tables
  obtain ⟨fd21, F21⟩ := c.def_ 21 (d := D_law_stream) rfl
  have T21 : ∀ base : Heap, FnFact P w K mg base "_law_stream" e_law_stream := fun base => fn_factD (N := ["_law_script", "_law_at", "_law_cell", "_law_great", "_law_mixed"]) (ps := ["_law_script", "_law_at"]) F21 (He.glo_ok X G (c.fact 21 (f := .glo "_law_stream") rfl)) (by decide +kernel) (G0 base 0) (fun _ _ _ _ _ _ us hl => match us, hl with | [_, _], _ => rfl) d_law_stream
  obtain ⟨fd22, F22⟩ := c.def_ 22 (d := D_law_draw) rfl
  have T22 : ∀ base : Heap, FnFact P w K mg base "_law_draw" e_law_draw := fun base => fn_factD (N := ["_law_stream_here", "_law_total", "_law_found", "_law_one", "_law_two"]) (ps := ["_law_stream_here", "_law_total"]) F22 (He.glo_ok X G (c.fact 22 (f := .glo "_law_draw") rfl)) (by decide +kernel) (G0 base 0) (fun _ _ _ _ _ _ us hl => match us, hl with | [_, _], _ => rfl) d_law_draw
  obtain ⟨fd23, F23⟩ := c.def_ 23 (d := D_law_pick) rfl
  have T23 : ∀ base : Heap, FnFact P w K mg base "_law_pick" e_law_pick := fun base => fn_factD (N := ["_law_stream_here", "_law_items"]) (ps := ["_law_stream_here", "_law_items"]) F23 (He.glo_ok X G (c.fact 23 (f := .glo "_law_pick") rfl)) (by decide +kernel) ((G0 base 1).cons (T22 base) (Nat.le_refl _) (by decide)) (fun _ _ _ _ _ _ us hl => match us, hl with | [_, _], _ => rfl) d_law_pick
  obtain ⟨fd24, F24⟩ := c.def_ 24 (d := D_law_alphabet) rfl
  have T24 : ∀ base : Heap, FnFact P w K mg base "_law_alphabet" e_law_alphabet := fun base => fn_factD (N := ["_law_stream_here", "_law_most", "_law_letters", "_law_total", "_law_places_here", "_law_signs", "_law_at", "_law_place", "_law_rows", "_law_word_here", "_law_sign", "_law_process"]) (ps := ["_law_stream_here", "_law_most", "_law_letters"]) F24 (He.glo_ok X G (c.fact 24 (f := .glo "_law_alphabet") rfl)) (by decide +kernel) ((G0 base 1).cons (T22 base) (Nat.le_refl _) (by decide)) (fun _ _ _ _ _ _ us hl => match us, hl with | [_, _, _], _ => rfl) d_law_alphabet
  obtain ⟨fd25, F25⟩ := c.def_ 25 (d := D_law_meeting_alphabet) rfl
  have T25 : ∀ base : Heap, FnFact P w K mg base "_law_meeting_alphabet" e_law_meeting_alphabet := fun base => fn_factD (N := ["_law_stream_here", "_law_most", "_law_total", "_law_rows", "_law_process"]) (ps := ["_law_stream_here", "_law_most"]) F25 (He.glo_ok X G (c.fact 25 (f := .glo "_law_meeting_alphabet") rfl)) (by decide +kernel) ((G0 base 1).cons (T22 base) (Nat.le_refl _) (by decide)) (fun _ _ _ _ _ _ us hl => match us, hl with | [_, _], _ => rfl) d_law_meeting_alphabet
  obtain ⟨fd26, F26⟩ := c.def_ 26 (d := D_law_places) rfl
  have T26 : ∀ base : Heap, FnFact P w K mg base "_law_places" e_law_places := fun base => fn_factD (N := ["_law_alphabet_here", "_law_letter", "_law_place"]) (ps := ["_law_alphabet_here"]) F26 (He.glo_ok X G (c.fact 26 (f := .glo "_law_places") rfl)) (by decide +kernel) (G0 base 0) (fun _ _ _ _ _ _ us hl => match us, hl with | [_], _ => rfl) d_law_places
  obtain ⟨fd27, F27⟩ := c.def_ 27 (d := D_law_word) rfl
  have T27 : ∀ base : Heap, FnFact P w K mg base "_law_word" e_law_word := fun base => fn_factD (N := ["_law_stream_here", "_law_alphabet_here", "_law_total", "_law_letters", "_law_letter", "_law_place", "_law_turn"]) (ps := ["_law_stream_here", "_law_alphabet_here", "_law_total"]) F27 (He.glo_ok X G (c.fact 27 (f := .glo "_law_word") rfl)) (by decide +kernel) ((G0 base 2).cons (T23 base) (Nat.le_refl _) (by decide)) (fun _ _ _ _ _ _ us hl => match us, hl with | [_, _, _], _ => rfl) d_law_word
  obtain ⟨fd28, F28⟩ := c.def_ 28 (d := D_law_meet) rfl
  have T28 : ∀ base : Heap, FnFact P w K mg base "_law_meet" e_law_meet := fun base => fn_factD (N := ["_law_one", "_law_other", "_law_process"]) (ps := ["_law_one", "_law_other"]) F28 (He.glo_ok X G (c.fact 28 (f := .glo "_law_meet") rfl)) (by decide +kernel) (G0 base 0) (fun _ _ _ _ _ _ us hl => match us, hl with | [_, _], _ => rfl) d_law_meet
  obtain ⟨fd29, F29⟩ := c.def_ 29 (d := D_law_pasts) rfl
  have T29 : ∀ base : Heap, FnFact P w K mg base "_law_pasts" e_law_pasts := fun base => fn_factD (N := ["_law_alphabet_here", "_law_word_here", "_law_places_here", "_law_found", "_law_at", "_law_letter", "_law_inside", "_law_earlier", "_law_other"]) (ps := ["_law_alphabet_here", "_law_word_here"]) F29 (He.glo_ok X G (c.fact 29 (f := .glo "_law_pasts") rfl)) (by decide +kernel) (((G0 base 1).cons (T26 base) (Nat.le_refl _) (by decide)).cons (T28 base) (Nat.le_refl _) (by decide)) (fun _ _ _ _ _ _ us hl => match us, hl with | [_, _], _ => rfl) d_law_pasts
  obtain ⟨fd30, F30⟩ := c.def_ 30 (d := D_law_last) rfl
  have T30 : ∀ base : Heap, FnFact P w K mg base "_law_last" e_law_last := fun base => fn_factD (N := ["_law_alphabet_here", "_law_word_here", "_law_process", "_law_inside", "_law_places_here", "_law_found", "_law_at"]) (ps := ["_law_alphabet_here", "_law_word_here", "_law_process", "_law_inside"]) F30 (He.glo_ok X G (c.fact 30 (f := .glo "_law_last") rfl)) (by decide +kernel) ((G0 base 1).cons (T26 base) (Nat.le_refl _) (by decide)) (fun _ _ _ _ _ _ us hl => match us, hl with | [_, _, _, _], _ => rfl) d_law_last
  obtain ⟨fd31, F31⟩ := c.def_ 31 (d := D_law_view) rfl
  have T31 : ∀ base : Heap, FnFact P w K mg base "_law_view" e_law_view := fun base => fn_factD (N := ["_law_alphabet_here", "_law_word_here", "_law_group", "_law_pasts_here", "_law_inside", "_law_process", "_law_last_here", "_law_at"]) (ps := ["_law_alphabet_here", "_law_word_here", "_law_group"]) F31 (He.glo_ok X G (c.fact 31 (f := .glo "_law_view") rfl)) (by decide +kernel) (((G0 base 2).cons (T29 base) (Nat.le_refl _) (by decide)).cons (T30 base) (Nat.le_refl _) (by decide)) (fun _ _ _ _ _ _ us hl => match us, hl with | [_, _, _], _ => rfl) d_law_view
  obtain ⟨fd32, F32⟩ := c.def_ 32 (d := D_law_counts) rfl
  have T32 : ∀ base : Heap, FnFact P w K mg base "_law_counts" e_law_counts := fun base => fn_factD (N := ["_law_alphabet_here", "_law_word_here", "_law_inside", "_law_places_here", "_law_found", "_law_at", "_law_process"]) (ps := ["_law_alphabet_here", "_law_word_here", "_law_inside"]) F32 (He.glo_ok X G (c.fact 32 (f := .glo "_law_counts") rfl)) (by decide +kernel) ((G0 base 1).cons (T26 base) (Nat.le_refl _) (by decide)) (fun _ _ _ _ _ _ us hl => match us, hl with | [_, _, _], _ => rfl) d_law_counts
  obtain ⟨fd33, F33⟩ := c.def_ 33 (d := D_law_table) rfl
  have T33 : ∀ base : Heap, FnFact P w K mg base "_law_table" e_law_table := fun base => fn_factD (N := ["_law_alphabet_here", "_law_word_here", "_law_process", "_law_pasts_here", "_law_seen", "_law_clocks", "_law_other", "_law_last_here"]) (ps := ["_law_alphabet_here", "_law_word_here", "_law_process"]) F33 (He.glo_ok X G (c.fact 33 (f := .glo "_law_table") rfl)) (by decide +kernel) (((((G0 base 3).cons (T31 base) (Nat.le_refl _) (by decide)).cons (T29 base) (Nat.le_refl _) (by decide)).cons (T30 base) (Nat.le_refl _) (by decide)).cons (T32 base) (Nat.le_refl _) (by decide)) (fun _ _ _ _ _ _ us hl => match us, hl with | [_, _, _], _ => rfl) d_law_table
  obtain ⟨fd34, F34⟩ := c.def_ 34 (d := D_law_right) rfl
  have T34 : ∀ base : Heap, FnFact P w K mg base "_law_right" e_law_right := fun base => fn_factD (N := ["_law_alphabet_here", "_law_word_here", "_law_places_here", "_law_tables", "_law_at", "_law_letter", "_law_given", "_law_kept", "_law_told", "_law_process"]) (ps := ["_law_alphabet_here", "_law_word_here"]) F34 (He.glo_ok X G (c.fact 34 (f := .glo "_law_right") rfl)) (by decide +kernel) (((((G0 base 8).cons (T20 base) (Nat.le_refl _) (by decide)).cons (T19 base) (Nat.le_refl _) (by decide)).cons (T33 base) (Nat.le_refl _) (by decide)).cons (T26 base) (Nat.le_refl _) (by decide)) (fun _ _ _ _ _ _ us hl => match us, hl with | [_, _], _ => rfl) d_law_right
  obtain ⟨fd35, F35⟩ := c.def_ 35 (d := D_law) rfl
  have e := hfa.symm.trans (He.glo_ok X G (c.fact 35 (f := .glo "law") rfl))
  cases e
  exact ⟨fd35, ⟨fun s u => FunD.bindsA (ps := ["_law_script"]) F35 (fun _ _ _ _ _ _ us hl => match us, hl with | [_], _ => rfl) s [u] rfl, fun base _ _ => fn_D (N := ["_law_script", "_law_at", "_law_stream_here", "_law_alphabet_here", "_law_ring", "_law_full", "_law_line"]) (ps := ["_law_script"]) F35 (by decide +kernel) (((((((G0 base 9).cons (T27 base) (Nat.le_refl _) (by decide)).cons (T21 base) (Nat.le_refl _) (by decide)).cons (T34 base) (Nat.le_refl _) (by decide)).cons (T25 base) (Nat.le_refl _) (by decide)).cons (T22 base) (Nat.le_refl _) (by decide)).cons (T24 base) (Nat.le_refl _) (by decide)) d_law⟩⟩
end
end K39
open PySem PySem.W PySem.Calls PyProof.Rows
theorem PySem.Challenge.cw_meetwatch_k39_news_tables_met_holds : PySem.Challenge.rw_meetwatch_k39_news_tables_met.Holds := by
  w_on; o_law
  refine HandSHeadRun.head_any (r := K39.R) (q := view K39.R.prog [47]) (H := K39.hk) (ob := K39.ob) (M := 4000) (loose := K39.names) (d := HandSHeadRun.topDef K39.R.prog 47) (kwd := []) K39.ob_eq
    (by kernel_rfl) (fun s => by kernel_rfl) K39.run (by kernel_rfl) (by kernel_rfl) (by kernel_rfl) (by rfl) (by first | assumption | decide +kernel) (by decide +kernel) ⟨rfl, rfl, rfl, rfl, rfl, by decide +kernel⟩ ?hw ?hc
  case hw => w_witness2
  case hc =>
    refine PL.walk_ofD (l := PySem.Challenge.rw_meetwatch_k39_news_tables_met) (n := 63) (k := 10) (x := "_law_script") rfl (by decide) (by kernel_rfl) ⟨rfl, by decide, by decide⟩ fun w mg g h Y G hm => ?_
    obtain ⟨K, KX, c⟩ := Y
    have hm : mg ("law" : PySem.Str) = some (.ref g) := by
      have e : (HandSHeadRun.topDef K39.R.prog 47).name = ("law" : PySem.Str) := by kernel_rfl
      rw [← e]
      exact hm
    obtain ⟨fd, L⟩ := K39.facts (P := (PySem.Challenge.rw_meetwatch_k39_news_tables_met).prog) (w := w) KX G hm c
    exact ⟨K, fd, M.f_law_K39, KX, L, fun ns hl hb => K39.plain ns hl hb⟩
