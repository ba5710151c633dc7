import PyProof.Rows.All
import Wide.All
import OpenK.AllK
import Wide.FinOn
import HandS.ForMost
import HandS.Exc
import HandS.ExcOwn
import HandS.WordsExc
import HandS.TupAny
import HandS.TupMul
import HandS.Style
import HandS.Flow
import HandS.Wide
import HandS.IsInst
import HandS.Text
import HandS.Zip
import KE.KLam
import HandS.Ends
import KE.GoesNew
import KE.GoesEnum
import KE.GoesMore
import HandS.RaiseMore
import HandS.MakeKwOnly
import HandS.CallRecv
import HandS.DictTup
import HandS.TupSets
import HandS.Strs
import HandS.SortInts
import KE.KDictPairs
import KE.KDictZip
import HandS.DictComp
import HandS.Conv
import PyProof.ReprRoads
import PyProof.Rows.RegFStrParts
import HandS.HeadHook1
import HandS.HeadHook2
import HandS.HeadHook3
import HandS.HeadEnd
import HandS.Head2
import PySem.Challenge.RW_unwindrows_k08_breaks_by_hand
set_option Elab.async false
set_option linter.all false
set_option maxRecDepth 100000
set_option maxHeartbeats 4000000
/-! A plain layer: each def as a function over plain data, tied to the judgements of HandS. -/
namespace Sh
open PySem L2

/-- plain data -/
inductive D where
  | non | bl (b : Bool) | int (i : Int) | str (x : Str) | tup (xs : List D) | lst (xs : List D) | fls (xs : List D) | ftp (xs : List D) | dic (kvs : List (Key × D)) | loc (l : Nat) | ty (n : String) | rng (lo hi : Int)
/-- what stands in the store -/
inductive O where
  | lst (xs : List D) | dic (kvs : List (Key × D)) | dicF (kvs : List (Key × D)) | ins (c : Nat) (fs : List (Str × D)) | dead
abbrev Sto := List O
/-- where the changeable things stand; the places of things under construction -/
structure Rho where
  t : List (Option Addr)
  h : List Addr
abbrev Rho.length (ρ : Rho) : Nat := ρ.t.length
def Live (ρ : Rho) (a : Addr) : Prop := some a ∈ ρ.t ∨ a ∈ ρ.h
/-- an exception: its class's number, its fields -/
structure Exn where
  c : Nat
  fs : List (Str × D)
/-- the constants of a text: what is written, where the classes stand -/
structure Cn where
  K : PySem.W.Frag
  cl : Nat → Addr

/-- a list that stands still: locked, or written in the text -/
def FzL (K : PySem.W.Frag) (H : Hp) (a : Addr) (vs : List V) : Prop := (∃ o, H a = some (.frz o (.lst vs))) ∨ ∃ (o : Obj) (its : Array Value) (n : Nat), K.lookup a = some o ∧ o.cls = .type "list" ∧ o.dict = none ∧ o.data = .seq its n ∧ its.size ≤ sizeLine ∧ Vals vs its.toList
theorem FzL.sq {K : PySem.W.Frag} {H : Hp} {a : Addr} {vs : List V} (h : FzL K H a vs) : SqL K H a vs := h.elim (fun z => .inl (.inr z)) .inr
mutual
inductive Rep (k : Cn) (ρ : Rho) (H : Hp) : D → V → Prop
  | non : Rep k ρ H .non .non
  | bl (b : Bool) : Rep k ρ H (.bl b) (.bl b)
  | int (i : Int) : Rep k ρ H (.int i) (.int i)
  | str (x : Str) : Rep k ρ H (.str x) (.str x)
  | ty (n : String) : Rep k ρ H (.ty n) (.ty n)
  | tup {a : Addr} {vs : List V} {ds : List D} : SqT k.K H a vs → Reps k ρ H ds vs → Rep k ρ H (.tup ds) (.ref a)
  | lst {a : Addr} {vs : List V} {ds : List D} : H a = some (.lst vs) → ¬ Live ρ a → Reps k ρ H ds vs → Rep k ρ H (.lst ds) (.ref a)
  | fls {a : Addr} {vs : List V} {ds : List D} : FzL k.K H a vs → Reps k ρ H ds vs → Rep k ρ H (.fls ds) (.ref a)
  | ftp {a : Addr} {o : Obj} {vs : List V} {ds : List D} : H a = some (.frz o (.tup vs)) → o.dict = none → Reps k ρ H ds vs → Rep k ρ H (.ftp ds) (.ref a)
  | dic {a : Addr} {ws : List (Key × V)} {kvs : List (Key × D)} : H a = some (.dK ws) → ¬ Live ρ a → RepK k ρ H kvs ws → Rep k ρ H (.dic kvs) (.ref a)
  | rng {a : Addr} {lo hi : Int} : H a = some (.rng lo hi) → Rep k ρ H (.rng lo hi) (.ref a)
  | loc {l : Nat} {a : Addr} : ρ.t[l]? = some (some a) → Rep k ρ H (.loc l) (.ref a)
inductive Reps (k : Cn) (ρ : Rho) (H : Hp) : List D → List V → Prop
  | nil : Reps k ρ H [] []
  | cons {d : D} {v : V} {ds : List D} {vs : List V} : Rep k ρ H d v → Reps k ρ H ds vs → Reps k ρ H (d :: ds) (v :: vs)
inductive RepK (k : Cn) (ρ : Rho) (H : Hp) : List (Key × D) → List (Key × V) → Prop
  | nil : RepK k ρ H [] []
  | cons {x : Key} {d : D} {v : V} {ds : List (Key × D)} {vs : List (Key × V)} : Rep k ρ H d v → RepK k ρ H ds vs → RepK k ρ H ((x, d) :: ds) ((x, v) :: vs)
end
/-- fields by names -/
inductive RepF (k : Cn) (ρ : Rho) (H : Hp) : List (Str × D) → List (Str × V) → Prop
  | nil : RepF k ρ H [] []
  | cons {x : Str} {d : D} {v : V} {ds : List (Str × D)} {vs : List (Str × V)} : Rep k ρ H d v → RepF k ρ H ds vs → RepF k ρ H ((x, d) :: ds) ((x, v) :: vs)

def ORep (k : Cn) (ρ : Rho) (H : Hp) (a : Addr) : O → Prop
  | .lst ds => ∃ vs, H a = some (.lst vs) ∧ Reps k ρ H ds vs
  | .dic kvs => ∃ ws, H a = some (.dK ws) ∧ RepK k ρ H kvs ws
  | .dicF kvs => ∃ o ws, H a = some (.frz o (.dK ws)) ∧ RepK k ρ H kvs ws
  | .ins c fs => ∃ dx gs, H a = some (.ins (k.cl c) dx gs) ∧ RepF k ρ H fs gs
  | .dead => False

/-- a list or a dict under construction -/
def Raw (u : HO) : Prop := (∃ vs, u = .lst vs) ∨ ∃ ws, u = .dK ws
structure Sim (k : Cn) (ρ : Rho) (S : Sto) (H : Hp) : Prop where
  len : ρ.length = S.length
  raw : ∀ a ∈ ρ.h, some a ∉ ρ.t ∧ ∃ u, H a = some u ∧ Raw u
  inj : ∀ (l l' : Nat) (a : Addr), ρ.t[l]? = some (some a) → ρ.t[l']? = some (some a) → l = l'
  ob : ∀ (l : Nat) (o : O), S[l]? = some o → o ≠ .dead → ∃ a, ρ.t[l]? = some (some a)
  at_ : ∀ (l : Nat) (a : Addr) (o : O), ρ.t[l]? = some (some a) → S[l]? = some o → ORep k ρ H a o

structure Ext0 (n : Nat) (ρ ρ' : Rho) (H H' : Hp) : Prop where
  old : ∀ (l : Nat) (a : Addr), l < n → ρ.t[l]? = some (some a) → ρ'.t[l]? = some (some a)
  keep : ∀ a o, H a = some o → ¬ Live ρ a → H' a = some o
  fz : ∀ a o u, H a = some (.frz o u) → H' a = some (.frz o u)
  new : ∀ a, Live ρ' a → Live ρ a ∨ H a = none
structure Ext (n : Nat) (ρ ρ' : Rho) (H H' : Hp) : Prop where
  old : ∀ (l : Nat) (a : Addr), l < n → ρ.t[l]? = some (some a) → ρ'.t[l]? = some (some a)
  len : ρ.length ≤ ρ'.length
  keep : ∀ a o, H a = some o → ¬ Live ρ a → H' a = some o
  fz : ∀ a o u, H a = some (.frz o u) → H' a = some (.frz o u)
  new : ∀ a, Live ρ' a → Live ρ a ∨ H a = none
  hol : ρ'.h = ρ.h
  hk : ∀ a ∈ ρ.h, H' a = H a

theorem Ext.to0 {n : Nat} {ρ ρ' : Rho} {H H' : Hp} (e : Ext n ρ ρ' H H') : Ext0 n ρ ρ' H H' := ⟨e.old, e.keep, e.fz, e.new⟩
theorem Ext.refl {n : Nat} {ρ : Rho} {H : Hp} : Ext n ρ ρ H H := ⟨fun _ _ _ h => h, Nat.le_refl _, fun _ _ h _ => h, fun _ _ _ h => h, fun _ h => .inl h, rfl, fun _ _ => rfl⟩
theorem Ext.trans {n m : Nat} {ρ ρ1 ρ2 : Rho} {H H1 H2 : Hp} (a : Ext n ρ ρ1 H H1) (b : Ext m ρ1 ρ2 H1 H2) (h : n ≤ m) : Ext n ρ ρ2 H H2 where
  old := fun l x hl e => b.old l x (by omega) (a.old l x hl e)
  len := Nat.le_trans a.len b.len
  fz := fun x o u e => b.fz x o u (a.fz x o u e)
  keep := fun x o e hn => b.keep x o (a.keep x o e hn) fun z => (a.new x z).elim hn fun z => by rw [e] at z; cases z
  new := fun x hx => (b.new x hx).elim (a.new x) fun z => by
    by_cases hr : Live ρ x
    · exact .inl hr
    · refine .inr ?_
      cases q : H x with
      | none => rfl
      | some o => rw [a.keep x o q hr] at z; cases z
  hol := b.hol.trans a.hol
  hk := fun x hx => (b.hk x (by rw [a.hol]; exact hx)).trans (a.hk x hx)
theorem Ext.tr {ρ ρ1 ρ2 : Rho} {H H1 H2 : Hp} (a : Ext ρ.length ρ ρ1 H H1) (b : Ext ρ1.length ρ1 ρ2 H1 H2) : Ext ρ.length ρ ρ2 H H2 := a.trans b a.len
theorem Ext.less {n m : Nat} {ρ ρ1 : Rho} {H H1 : Hp} (a : Ext m ρ ρ1 H H1) (h : n ≤ m) : Ext n ρ ρ1 H H1 := ⟨fun l x hl e => a.old l x (by omega) e, a.len, a.keep, a.fz, a.new, a.hol, a.hk⟩

theorem mem_rho {l : List (Option Addr)} {a : Addr} : some a ∈ l ↔ ∃ i : Nat, l[i]? = some (some a) := List.mem_iff_getElem?
theorem ORep.not_tup {k : Cn} {ρ : Rho} {H : Hp} {a : Addr} {o : O} (h : ORep k ρ H a o) {xs : List V} : ¬ Rd H a (.tup xs) := by
  intro z
  cases o with
  | lst ds => obtain ⟨vs, e, _⟩ := h; rcases z with z | ⟨_, z⟩ <;> (rw [e] at z; cases z)
  | dic ds => obtain ⟨vs, e, _⟩ := h; rcases z with z | ⟨_, z⟩ <;> (rw [e] at z; cases z)
  | dicF ds => obtain ⟨o, vs, e, _⟩ := h; rcases z with z | ⟨_, z⟩ <;> (rw [e] at z; cases z)
  | ins c fs => obtain ⟨dx, vs, e, _⟩ := h; rcases z with z | ⟨_, z⟩ <;> (rw [e] at z; cases z)
  | dead => exact h
theorem ORep.some_ {k : Cn} {ρ : Rho} {H : Hp} {a : Addr} {o : O} (h : ORep k ρ H a o) : ∃ u, H a = some u := by
  cases o with
  | lst ds => obtain ⟨vs, e, _⟩ := h; exact ⟨_, e⟩
  | dic ds => obtain ⟨vs, e, _⟩ := h; exact ⟨_, e⟩
  | dicF ds => obtain ⟨o, vs, e, _⟩ := h; exact ⟨_, e⟩
  | ins c fs => obtain ⟨dx, vs, e, _⟩ := h; exact ⟨_, e⟩
  | dead => exact h.elim
theorem ORep.not_rng {k : Cn} {ρ : Rho} {H : Hp} {a : Addr} {o : O} (h : ORep k ρ H a o) {x y : Int} : H a ≠ some (.rng x y) := by
  intro z
  cases o with
  | lst ds => obtain ⟨vs, e, _⟩ := h; rw [e] at z; cases z
  | dic ds => obtain ⟨vs, e, _⟩ := h; rw [e] at z; cases z
  | dicF ds => obtain ⟨o, vs, e, _⟩ := h; rw [e] at z; cases z
  | ins c fs => obtain ⟨dx, vs, e, _⟩ := h; rw [e] at z; cases z
  | dead => exact h
/-- what is live is changeable -/
theorem Sim.liveT {k : Cn} {ρ : Rho} {S : Sto} {H : Hp} (h : Sim k ρ S H) {a : Addr} (ha : some a ∈ ρ.t) : ∃ o, ORep k ρ H a o := by
  obtain ⟨l, hl⟩ := mem_rho.mp ha
  have hlt : l < S.length := by
    rw [← h.len]
    exact (List.getElem?_eq_some_iff.mp hl).1
  exact ⟨S[l], h.at_ l a S[l] hl (List.getElem?_eq_getElem hlt)⟩
theorem Sim.live {k : Cn} {ρ : Rho} {S : Sto} {H : Hp} (h : Sim k ρ S H) {a : Addr} (ha : Live ρ a) : (∃ u, H a = some u) ∧ (∀ xs, ¬ Rd H a (.tup xs)) ∧ True ∧ ∀ x y, H a ≠ some (.rng x y) := by
  rcases ha with ha | ha
  · obtain ⟨o, ho⟩ := h.liveT ha
    exact ⟨ho.some_, fun _ => ho.not_tup, trivial, fun _ _ => ho.not_rng⟩
  · obtain ⟨_, u, e, r⟩ := h.raw a ha
    refine ⟨⟨u, e⟩, fun xs z => ?_, trivial, fun o v z => ?_⟩
    · rcases r with ⟨_, rfl⟩ | ⟨_, rfl⟩ <;> (rcases z with z | ⟨_, z⟩ <;> (rw [e] at z; cases z))
    · rcases r with ⟨_, rfl⟩ | ⟨_, rfl⟩ <;> (rw [e] at z; cases z)
theorem Ext.same {k : Cn} {S : Sto} {n : Nat} {ρ : Rho} {H H' : Hp} (m : Sim k ρ S H) (s : Same H H') : Ext n ρ ρ H H' := ⟨fun _ _ _ h => h, Nat.le_refl _, fun _ _ h _ => s _ _ h, fun _ _ _ h => s _ _ h, fun _ h => .inl h, rfl, fun a ha => by
  obtain ⟨_, u, e, _⟩ := m.raw a ha
  rw [e, s _ _ e]⟩
theorem Ext0.out {ρ ρ' : Rho} {n : Nat} {H H' : Hp} {a : Addr} {u : HO} (e : Ext0 n ρ ρ' H H') (h : H a = some u) (hn : ¬ Live ρ a) : ¬ Live ρ' a := fun z => (e.new a z).elim hn fun q => by
  rw [h] at q; cases q
theorem Ext.out {ρ ρ' : Rho} {n : Nat} {H H' : Hp} {a : Addr} {u : HO} (e : Ext n ρ ρ' H H') (h : H a = some u) (hn : ¬ Live ρ a) : ¬ Live ρ' a := e.to0.out h hn
theorem SqT.ext0 {k : Cn} {ρ ρ' : Rho} {S : Sto} {n : Nat} {H H' : Hp} {a : Addr} {vs : List V} (m : Sim k ρ S H) (e : Ext0 n ρ ρ' H H') (h : SqT k.K H a vs) : SqT k.K H' a vs := by
  rcases h with h | h
  · have nl : ¬ Live ρ a := fun z => (m.live z).2.1 vs h
    rcases h with h | ⟨o, h⟩
    · exact .inl (.inl (e.keep a _ h nl))
    · exact .inl (.inr ⟨o, e.fz a _ _ h⟩)
  · exact .inr h

mutual
theorem Rep.ext0 {k : Cn} {ρ ρ' : Rho} {S : Sto} {H H' : Hp} (m : Sim k ρ S H) (e : Ext0 ρ.length ρ ρ' H H') : ∀ {d : D} {v : V}, Rep k ρ H d v → Rep k ρ' H' d v
  | _, _, .non => .non
  | _, _, .bl b => .bl b
  | _, _, .int i => .int i
  | _, _, .str x => .str x
  | _, _, .ty n => .ty n
  | _, _, .tup h r => .tup (SqT.ext0 m e h) (Reps.ext0 m e r)
  | _, _, .lst h n r => .lst (e.keep _ _ h n) (e.out h n) (Reps.ext0 m e r)
  | _, _, .fls h r => .fls (h.imp (fun ⟨o, z⟩ => ⟨o, e.fz _ _ _ z⟩) id) (Reps.ext0 m e r)
  | _, _, .ftp h hd r => .ftp (e.fz _ _ _ h) hd (Reps.ext0 m e r)
  | _, _, .dic h n r => .dic (e.keep _ _ h n) (e.out h n) (RepK.ext0 m e r)
  | _, _, .rng h => .rng (e.keep _ _ h fun z => (m.live z).2.2.2 _ _ h)
  | _, _, .loc h => .loc (e.old _ _ (List.getElem?_eq_some_iff.mp h).1 h)
theorem Reps.ext0 {k : Cn} {ρ ρ' : Rho} {S : Sto} {H H' : Hp} (m : Sim k ρ S H) (e : Ext0 ρ.length ρ ρ' H H') : ∀ {ds : List D} {vs : List V}, Reps k ρ H ds vs → Reps k ρ' H' ds vs
  | _, _, .nil => .nil
  | _, _, .cons r t => .cons (Rep.ext0 m e r) (Reps.ext0 m e t)
theorem RepK.ext0 {k : Cn} {ρ ρ' : Rho} {S : Sto} {H H' : Hp} (m : Sim k ρ S H) (e : Ext0 ρ.length ρ ρ' H H') : ∀ {ds : List (Key × D)} {vs : List (Key × V)}, RepK k ρ H ds vs → RepK k ρ' H' ds vs
  | _, _, .nil => .nil
  | _, _, .cons r t => .cons (Rep.ext0 m e r) (RepK.ext0 m e t)
end
theorem RepF.ext0 {k : Cn} {ρ ρ' : Rho} {S : Sto} {H H' : Hp} (m : Sim k ρ S H) (e : Ext0 ρ.length ρ ρ' H H') : ∀ {ds : List (Str × D)} {vs : List (Str × V)}, RepF k ρ H ds vs → RepF k ρ' H' ds vs
  | _, _, .nil => .nil
  | _, _, .cons r t => .cons (Rep.ext0 m e r) (RepF.ext0 m e t)
section
variable {k : Cn} {ρ ρ' : Rho} {S : Sto} {H H' : Hp}
theorem Rep.ext (m : Sim k ρ S H) (e : Ext ρ.length ρ ρ' H H') {d : D} {v : V} (h : Rep k ρ H d v) : Rep k ρ' H' d v := h.ext0 m e.to0
theorem Reps.ext (m : Sim k ρ S H) (e : Ext ρ.length ρ ρ' H H') {d : List D} {v : List V} (h : Reps k ρ H d v) : Reps k ρ' H' d v := h.ext0 m e.to0
theorem RepK.ext (m : Sim k ρ S H) (e : Ext ρ.length ρ ρ' H H') {d : List (Key × D)} {v : List (Key × V)} (h : RepK k ρ H d v) : RepK k ρ' H' d v := h.ext0 m e.to0
theorem RepF.ext (m : Sim k ρ S H) (e : Ext ρ.length ρ ρ' H H') {d : List (Str × D)} {v : List (Str × V)} (h : RepF k ρ H d v) : RepF k ρ' H' d v := h.ext0 m e.to0
theorem ORep.ext0 {a : Addr} {o : O} (m : Sim k ρ S H) (e : Ext0 ρ.length ρ ρ' H H') (ha : H' a = H a) (h : ORep k ρ H a o) : ORep k ρ' H' a o := by
  cases o with
  | lst ds => obtain ⟨vs, q, r⟩ := h; exact ⟨vs, by rw [ha]; exact q, r.ext0 m e⟩
  | dic ds => obtain ⟨vs, q, r⟩ := h; exact ⟨vs, by rw [ha]; exact q, r.ext0 m e⟩
  | dicF ds => obtain ⟨o, vs, q, r⟩ := h; exact ⟨o, vs, by rw [ha]; exact q, r.ext0 m e⟩
  | ins c fs => obtain ⟨dx, vs, q, r⟩ := h; exact ⟨dx, vs, by rw [ha]; exact q, r.ext0 m e⟩
  | dead => exact h.elim
end
theorem ORep.same {k : Cn} {ρ : Rho} {S : Sto} {H H' : Hp} {a : Addr} {o : O} (m : Sim k ρ S H) (s : Same H H') (h : ORep k ρ H a o) : ORep k ρ H' a o := by
  have e : Ext ρ.length ρ ρ H H' := Ext.same m s
  cases o with
  | lst ds => obtain ⟨vs, q, r⟩ := h; exact ⟨vs, s _ _ q, r.ext m e⟩
  | dic ds => obtain ⟨vs, q, r⟩ := h; exact ⟨vs, s _ _ q, r.ext m e⟩
  | dicF ds => obtain ⟨o, vs, q, r⟩ := h; exact ⟨o, vs, s _ _ q, r.ext m e⟩
  | ins c fs => obtain ⟨dx, vs, q, r⟩ := h; exact ⟨dx, vs, s _ _ q, r.ext m e⟩
  | dead => exact h.elim
theorem Sim.same {k : Cn} {ρ : Rho} {S : Sto} {H H' : Hp} (m : Sim k ρ S H) (s : Same H H') : Sim k ρ S H' :=
  ⟨m.len, fun a ha => let ⟨h1, u, h2, h3⟩ := m.raw a ha; ⟨h1, u, s _ _ h2, h3⟩, m.inj, m.ob, fun l a o h1 h2 => (m.at_ l a o h1 h2).same m s⟩

/-! ### results, frames -/
inductive Res (α : Type) where
  | ok (a : α) (S : Sto) | ex (x : Exn) (S : Sto) | bad
abbrev Env := List (Option D)
abbrev EM (α : Type) := Env → Sto → Res α
def SRep (k : Cn) (ρ : Rho) (H : Hp) (e : Env) (σ : L2.St) : Prop := e.length = σ.length ∧ ∀ (i : Nat) (d : D), e[i]? = some (some d) → ∃ v, σ[i]? = some (some v) ∧ Rep k ρ H d v
theorem SRep.ext0 {k : Cn} {ρ ρ' : Rho} {S : Sto} {H H' : Hp} {e : Env} {σ : L2.St} (h : SRep k ρ H e σ) (m : Sim k ρ S H) (x : Ext0 ρ.length ρ ρ' H H') : SRep k ρ' H' e σ :=
  ⟨h.1, fun i d q => let ⟨v, q1, q2⟩ := h.2 i d q; ⟨v, q1, q2.ext0 m x⟩⟩
theorem SRep.ext {k : Cn} {ρ ρ' : Rho} {S : Sto} {H H' : Hp} {e : Env} {σ : L2.St} (h : SRep k ρ H e σ) (m : Sim k ρ S H) (x : Ext ρ.length ρ ρ' H H') : SRep k ρ' H' e σ :=
  ⟨h.1, fun i d q => let ⟨v, q1, q2⟩ := h.2 i d q; ⟨v, q1, q2.ext m x⟩⟩
/-- an exception in flight: its class, its own dict -/
def XRep (k : Cn) (ρ : Rho) (H : Hp) (x : Exn) (c : Value) (d : Option Addr) : Prop := c = .ref (k.cl x.c) ∧ ∃ dd gs, d = some dd ∧ H dd = some (.xd gs) ∧ RepF k ρ H x.fs gs
def PostX (k : Cn) (ρ : Rho) (H : Hp) (S' : Sto) (x : Exn) (E : XK) : Prop := ∀ c d H' ρ', Ext ρ.length ρ ρ' H H' → Sim k ρ' S' H' → XRep k ρ' H' x c d → E c d H'
/-- what is to be shown of a result: R tells how a value stands -/
def At {α : Type} (k : Cn) (Rp : Rho → Hp → α → β → Prop) (ρ : Rho) (H : Hp) (E : XK) (r : Res α) (Q : β → Hp → Prop) : Prop := match r with
  | .ok a S' => ∀ v H' ρ', Ext ρ.length ρ ρ' H H' → Sim k ρ' S' H' → Rp ρ' H' a v → Q v H'
  | .ex x S' => PostX k ρ H S' x E
  | .bad => False
theorem At.ext {α β : Type} {k : Cn} {Rp : Rho → Hp → α → β → Prop} {ρ ρ1 : Rho} {H H1 : Hp} {E : XK} {r : Res α} {Q : β → Hp → Prop} (e : Ext ρ.length ρ ρ1 H H1) (h : At k Rp ρ H E r Q) : At k Rp ρ1 H1 E r Q := by
  cases r with
  | ok a S' => exact fun v H' ρ' e' => h v H' ρ' (e.tr e')
  | ex x S' => exact fun c d H' ρ' e' => h c d H' ρ' (e.tr e')
  | bad => exact h
/-- the reading of a piece of code whose results stand by Rp -/
def tR {α β : Type} (k : Cn) (Rp : Rho → Hp → α → β → Prop) (W : WX) (m : EM α) : L2.St → Hp → (β → Hp → Prop) → Prop := fun σ H Q =>
  ∃ ρ S e, Sim k ρ S H ∧ SRep k ρ H e σ ∧ At k Rp ρ H (fun c d H' => W c d σ H') (m e S) Q
abbrev RpD (k : Cn) : Rho → Hp → D → V → Prop := fun ρ H d v => Rep k ρ H d v
abbrev RpB : Rho → Hp → Bool → Bool → Prop := fun _ _ b c => b = c
abbrev RpL (k : Cn) : Rho → Hp → List D → List V → Prop := fun ρ H d v => Reps k ρ H d v
abbrev tI (k : Cn) (W : WX) (m : EM D) : TE := tR k (RpD k) W m
abbrev tT (k : Cn) (W : WX) (m : EM Bool) : TT := tR k RpB W m
abbrev tL (k : Cn) (W : WX) (m : EM (List D)) : TA := tR k (RpL k) W m

@[reducible] def bindE {α β : Type} (m : EM α) (f : α → EM β) : EM β := fun e S => match m e S with
  | .ok a S' => f a e S'
  | .ex x S' => .ex x S'
  | .bad => .bad
theorem At.bind {α α' β β' : Type} {k : Cn} {Rp : Rho → Hp → α → β → Prop} {Rp' : Rho → Hp → α' → β' → Prop} {W : WX} {ρ : Rho} {S : Sto} {e : Env} {σ : L2.St} {H : Hp} {m : EM α} {f : α → EM α'} {Q : β' → Hp → Prop} {R : β → Hp → Prop}
    (sim : Sim k ρ S H) (sr : SRep k ρ H e σ) (h : At k Rp' ρ H (fun c d H' => W c d σ H') (bindE m f e S) Q)
    (cont : ∀ v d ρ1 S1 H1, Ext ρ.length ρ ρ1 H H1 → Sim k ρ1 S1 H1 → SRep k ρ1 H1 e σ → Rp ρ1 H1 d v → At k Rp' ρ1 H1 (fun c d H' => W c d σ H') (f d e S1) Q → R v H1) : tR k Rp W m σ H R := by
  refine ⟨ρ, S, e, sim, sr, ?_⟩
  unfold bindE at h
  cases q : m e S with
  | ok a S' =>
    rw [q] at h
    exact fun v H' ρ' x s' r => cont v a ρ' S' H' x s' (sr.ext sim x) r (At.ext x h)
  | ex x S' =>
    rw [q] at h
    exact h
  | bad =>
    rw [q] at h
    exact h
theorem At.bind' {α α' β β' : Type} {k : Cn} {Rp : Rho → Hp → α → β → Prop} {Rp' : Rho → Hp → α' → β' → Prop} {W : WX} {ρ : Rho} {S : Sto} {e : Env} {σ : L2.St} {H : Hp} {m : EM α} {f : α → EM α'} {Q : β' → Hp → Prop} {R : β → Hp → Prop}
    (sim : Sim k ρ S H) (sr : SRep k ρ H e σ) (h : At k Rp' ρ H (fun c d H' => W c d σ H') (bindE m f e S) Q)
    (cont : ∀ v d ρ1 S1 H1, m e S = .ok d S1 → Ext ρ.length ρ ρ1 H H1 → Sim k ρ1 S1 H1 → SRep k ρ1 H1 e σ → Rp ρ1 H1 d v → At k Rp' ρ1 H1 (fun c d H' => W c d σ H') (f d e S1) Q → R v H1) : tR k Rp W m σ H R := by
  refine ⟨ρ, S, e, sim, sr, ?_⟩
  unfold bindE at h
  cases q : m e S with
  | ok a S' =>
    rw [q] at h
    exact fun v H' ρ' x s' r => cont v a ρ' S' H' q x s' (sr.ext sim x) r (At.ext x h)
  | ex x S' =>
    rw [q] at h
    exact h
  | bad =>
    rw [q] at h
    exact h
theorem _root_.L2.PE.imp {X : Cx} {e : Expr} {t u : TE} (h : PE X e t) (i : ∀ σ H Q, u σ H Q → t σ H Q) : PE X e u := ⟨fun pins s σ H Q I q => h.run pins s σ H Q I (i _ _ _ q)⟩
theorem _root_.L2.PT.imp {X : Cx} {e : Expr} {t u : TT} (h : PT X e t) (i : ∀ σ H Q, u σ H Q → t σ H Q) : PT X e u := ⟨fun pins s σ H Q I q => h.run pins s σ H Q I (i _ _ _ q)⟩
theorem _root_.L2.PW.imp {X : Cx} {e : Expr} {t u : TT} (h : PW X e t) (i : ∀ σ H Q, u σ H Q → t σ H Q) : PW X e u := ⟨fun wh pins s σ H Q I q => h.run wh pins s σ H Q I (i _ _ _ q)⟩
theorem _root_.L2.PA.imp {X : Cx} {e : List Expr} {t u : TA} (h : PA X e t) (i : ∀ σ H Q, u σ H Q → t σ H Q) : PA X e u := ⟨fun p pins s σ H Q I q => h.run p pins s σ H Q I (i _ _ _ q)⟩
theorem _root_.L2.PS.imp {X : Cx} {e : Stmt} {t u : TS} (h : PS X e t) (i : ∀ D σ H, u D σ H → t D σ H) : PS X e u := ⟨fun pins s σ H D I q => h.run pins s σ H D I (i _ _ _ q)⟩
theorem _root_.L2.PSs.imp {X : Cx} {e : List Stmt} {t u : TS} (h : PSs X e t) (i : ∀ D σ H, u D σ H → t D σ H) : PSs X e u := ⟨fun pins s σ H D I q => h.run pins s σ H D I (i _ _ _ q)⟩
theorem _root_.L2.PG.imp {X : Cx} {e : Expr} {t u : TG} (h : PG X e t) (i : ∀ v σ H Q, u v σ H Q → t v σ H Q) : PG X e u := ⟨fun pins s σ H v z Q I r q => h.run pins s σ H v z Q I r (i _ _ _ _ q)⟩

/-! ### names, constants -/
@[reducible] def eVar (i : Nat) : EM D := fun e S => match e[i]? with
  | some (some d) => .ok d S
  | _ => .bad
@[reducible] def eC (d : D) : EM D := fun _ S => .ok d S
section
variable {X : Cx} {k : Cn} {W : WX} {a b c : Expr} {pos : Pos}
theorem c_var (i : Nat) {x : Str} (hN : X.N[i]? = some x := by rfl) (hv : Vis X.env.scope x := by first | exact Or.inl rfl | exact Or.inr (Or.inl rfl) | exact Or.inr (Or.inr rfl)) (hd : (x == ("__debug__" : Str)) = false := by decide)
    (hcd : (x == ("__classdict__" : Str)) = false := by decide) : PE X (.Name x pos) (tI k W (eVar i)) := (pe_var hN hv hd hcd).imp fun σ H Q ⟨ρ, S, e, sim, sr, h⟩ => by
  unfold eVar at h
  split at h
  · rename_i d q
    obtain ⟨v, e1, r⟩ := sr.2 i d q
    exact ⟨v, e1, h v H ρ Ext.refl sim r⟩
  · exact h.elim
theorem c_int {i : Int} {j : Nat} : PE X (.Constant (.int i) j pos) (tI k W (eC (.int i))) := pe_int.imp fun σ H Q ⟨ρ, S, e, sim, sr, h⟩ => h _ H ρ Ext.refl sim (.int i)
theorem c_bl {i : Bool} {j : Nat} : PE X (.Constant (.bool i) j pos) (tI k W (eC (.bl i))) := pe_bl.imp fun σ H Q ⟨ρ, S, e, sim, sr, h⟩ => h _ H ρ Ext.refl sim (.bl i)
theorem c_str {i : Str} {j : Nat} : PE X (.Constant (.str i) j pos) (tI k W (eC (.str i))) := pe_str.imp fun σ H Q ⟨ρ, S, e, sim, sr, h⟩ => h _ H ρ Ext.refl sim (.str i)
theorem c_non {j : Nat} : PE X (.Constant .none j pos) (tI k W (eC .non)) := pe_non.imp fun σ H Q ⟨ρ, S, e, sim, sr, h⟩ => h _ H ρ Ext.refl sim .non
end
end Sh
set_option Elab.async false
set_option linter.all false
set_option maxRecDepth 100000
set_option maxHeartbeats 4000000
namespace Sh
open PySem L2

/-! ### a changeable thing as it is read now -/
def deref (S : Sto) : D → D
  | .loc l => match S[l]? with
    | some (.lst xs) => .lst xs
    | some (.dic kvs) => .dic kvs
    | _ => .loc l
  | .ftp xs => .tup xs
  | d => d
inductive RR (k : Cn) (ρ : Rho) (H : Hp) : D → V → Prop
  | st {d : D} {v : V} : Rep k ρ H d v → RR k ρ H d v
  | lst {a : Addr} {vs : List V} {ds : List D} : H a = some (.lst vs) → Reps k ρ H ds vs → RR k ρ H (.lst ds) (.ref a)
  | dic {a : Addr} {ws : List (Key × V)} {kvs : List (Key × D)} : H a = some (.dK ws) → RepK k ρ H kvs ws → RR k ρ H (.dic kvs) (.ref a)
section
variable {k : Cn} {ρ ρ' : Rho} {S : Sto} {H H' : Hp} {d : D} {v : V} {ds : List D} {p : Addr} {vs : List V}
theorem RR.of (m : Sim k ρ S H) (r : Rep k ρ H d v) : RR k ρ H (deref S d) v := by
  cases r with
  | loc h =>
    rename_i l a
    cases e : S[l]? with
    | none => simp only [deref, e]; exact .st (.loc h)
    | some o =>
      cases o with
      | lst xs =>
        obtain ⟨vs, e1, e2⟩ := m.at_ l a _ h e
        simp only [deref, e]; exact .lst e1 e2
      | dic xs =>
        obtain ⟨vs, e1, e2⟩ := m.at_ l a _ h e
        simp only [deref, e]; exact .dic e1 e2
      | dicF fs => simp only [deref, e]; exact .st (.loc h)
      | ins c fs => simp only [deref, e]; exact .st (.loc h)
      | dead => simp only [deref, e]; exact .st (.loc h)
  | non => exact .st .non
  | bl b => exact .st (.bl b)
  | int b => exact .st (.int b)
  | str b => exact .st (.str b)
  | ty b => exact .st (.ty b)
  | tup h r => exact .st (.tup h r)
  | lst h n r => exact .st (.lst h n r)
  | fls h r => exact .st (.fls h r)
  | ftp h hd r => exact .st (.tup (.inl (.inr ⟨_, h⟩)) r)
  | dic h n r => exact .st (.dic h n r)
  | rng h => exact .st (.rng h)
theorem RR.int_ {i : Int} (r : RR k ρ H (.int i) v) : v = .int i := by cases r with | st r => cases r; rfl
theorem RR.str_ {i : Str} (r : RR k ρ H (.str i) v) : v = .str i := by cases r with | st r => cases r; rfl
theorem RR.bl_ {i : Bool} (r : RR k ρ H (.bl i) v) : v = .bl i := by cases r with | st r => cases r; rfl
theorem RR.ty_ {i : String} (r : RR k ρ H (.ty i) v) : v = .ty i := by cases r with | st r => cases r; rfl
theorem RR.non_ (r : RR k ρ H .non v) : v = .non := by cases r with | st r => cases r; rfl
theorem RR.tup_ (r : RR k ρ H (.tup ds) v) : ∃ a vs, v = .ref a ∧ SqT k.K H a vs ∧ Reps k ρ H ds vs := by cases r with | st r => cases r with | tup h r => exact ⟨_, _, rfl, h, r⟩
theorem RR.lst_ (r : RR k ρ H (.lst ds) v) : ∃ a vs, v = .ref a ∧ H a = some (.lst vs) ∧ Reps k ρ H ds vs := by
  cases r with
  | st r => cases r with | lst h n r => exact ⟨_, _, rfl, h, r⟩
  | lst h r => exact ⟨_, _, rfl, h, r⟩
theorem RR.rng_ {lo hi : Int} (r : RR k ρ H (.rng lo hi) v) : ∃ a, v = .ref a ∧ H a = some (.rng lo hi) := by cases r with | st r => cases r with | rng h => exact ⟨_, rfl, h⟩
theorem RR.fls_ (r : RR k ρ H (.fls ds) v) : ∃ a vs, v = .ref a ∧ FzL k.K H a vs ∧ Reps k ρ H ds vs := by cases r with | st r => cases r with | fls h r => exact ⟨_, _, rfl, h, r⟩
theorem RR.dic_ {kvs : List (Key × D)} (r : RR k ρ H (.dic kvs) v) : ∃ a ws, v = .ref a ∧ H a = some (.dK ws) ∧ RepK k ρ H kvs ws := by
  cases r with
  | st r => cases r with | dic h n r => exact ⟨_, _, rfl, h, r⟩
  | dic h r => exact ⟨_, _, rfl, h, r⟩

theorem Reps.length : ∀ {ds : List D} {vs : List V}, Reps k ρ H ds vs → ds.length = vs.length
  | _, _, .nil => rfl
  | _, _, .cons _ t => by simp [Reps.length t]
theorem Reps.append : ∀ {ds es : List D} {vs ws : List V}, Reps k ρ H ds vs → Reps k ρ H es ws → Reps k ρ H (ds ++ es) (vs ++ ws)
  | _, _, _, _, .nil, s => s
  | _, _, _, _, .cons r t, s => .cons r (Reps.append t s)
theorem Reps.get : ∀ {ds : List D} {vs : List V} {i : Nat} {d : D}, Reps k ρ H ds vs → ds[i]? = some d → ∃ v, vs[i]? = some v ∧ Rep k ρ H d v
  | _, _, _, _, .nil, e => by simp at e
  | _, _, 0, _, .cons r _, e => by simp at e; subst e; exact ⟨_, rfl, r⟩
  | _, _, i + 1, d, .cons _ t, e => by
    obtain ⟨v, h1, h2⟩ := Reps.get (i := i) (d := d) t (by simpa using e)
    exact ⟨v, by simpa using h1, h2⟩
theorem Reps.getV : ∀ {ds : List D} {vs : List V} {i : Nat} {v : V}, Reps k ρ H ds vs → vs[i]? = some v → ∃ d, ds[i]? = some d ∧ Rep k ρ H d v
  | _, _, _, _, .nil, e => by simp at e
  | _, _, 0, _, .cons r _, e => by simp at e; subst e; exact ⟨_, rfl, r⟩
  | _, _, i + 1, d, .cons _ t, e => by
    obtain ⟨v, h1, h2⟩ := Reps.getV (i := i) (v := d) t (by simpa using e)
    exact ⟨v, by simpa using h1, h2⟩
theorem Reps.take : ∀ {ds : List D} {vs : List V} (n : Nat), Reps k ρ H ds vs → Reps k ρ H (ds.take n) (vs.take n)
  | _, _, 0, _ => .nil
  | _, _, _ + 1, .nil => .nil
  | _, _, n + 1, .cons r t => .cons r (Reps.take n t)
theorem Reps.drop : ∀ {ds : List D} {vs : List V} (n : Nat), Reps k ρ H ds vs → Reps k ρ H (ds.drop n) (vs.drop n)
  | _, _, 0, r => r
  | _, _, _ + 1, .nil => .nil
  | _, _, n + 1, .cons _ t => Reps.drop n t
theorem Reps.reverse {ds : List D} {vs : List V} (r : Reps k ρ H ds vs) : Reps k ρ H ds.reverse vs.reverse := by
  induction ds generalizing vs with
  | nil => cases r; exact .nil
  | cons d ds ih => cases r with | cons r t => simp only [List.reverse_cons]; exact (ih t).append (.cons r .nil)
theorem Reps.rep {ds : List D} {vs : List V} (r : Reps k ρ H ds vs) : ∀ n : Nat, Reps k ρ H (List.replicate n ds).flatten (List.replicate n vs).flatten
  | 0 => .nil
  | n + 1 => by simp only [List.replicate_succ, List.flatten_cons]; exact r.append (Reps.rep r n)
theorem Reps.set {ds : List D} {vs : List V} {d : D} {v : V} (q : Rep k ρ H d v) : ∀ (i : Nat) {ds : List D} {vs : List V}, Reps k ρ H ds vs → Reps k ρ H (ds.set i d) (vs.set i v)
  | _, _, _, .nil => .nil
  | 0, _, _, .cons _ t => .cons q t
  | i + 1, _, _, .cons r t => .cons r (Reps.set (ds := ds) (vs := vs) q i t)

theorem same_new {o : HO} (hp : H p = none) : Same H (upd H p o) := fun b u e => by rw [upd_ne (ne_of_none e hp)]; exact e
theorem Sim.fresh (m : Sim k ρ S H) (hp : H p = none) : ¬ Live ρ p := fun z => by
  obtain ⟨u, hu⟩ := (m.live z).1
  rw [hu] at hp; cases hp
theorem Reps.same (m : Sim k ρ S H) (s : Same H H') (r : Reps k ρ H ds vs) : Reps k ρ H' ds vs := r.ext m (Ext.same m s)
theorem Rep.same (m : Sim k ρ S H) (s : Same H H') (r : Rep k ρ H d v) : Rep k ρ H' d v := r.ext m (Ext.same m s)
theorem RepK.same {kvs : List (Key × D)} {ws : List (Key × V)} (m : Sim k ρ S H) (s : Same H H') (r : RepK k ρ H kvs ws) : RepK k ρ H' kvs ws := r.ext m (Ext.same m s)
theorem Rep.newT (m : Sim k ρ S H) (hp : H p = none) (r : Reps k ρ H ds vs) : Rep k ρ (upd H p (.tup vs)) (.tup ds) (.ref p) := .tup (SqT.of upd_same) (r.same m (same_new hp))
theorem Rep.newL (m : Sim k ρ S H) (hp : H p = none) (r : Reps k ρ H ds vs) : Rep k ρ (upd H p (.lst vs)) (.lst ds) (.ref p) := .lst upd_same (m.fresh hp) (r.same m (same_new hp))
theorem Rep.newD {kvs : List (Key × D)} {ws : List (Key × V)} (m : Sim k ρ S H) (hp : H p = none) (r : RepK k ρ H kvs ws) : Rep k ρ (upd H p (.dK ws)) (.dic kvs) (.ref p) := .dic upd_same (m.fresh hp) (r.same m (same_new hp))
def Rho.push (ρ : Rho) (p : Addr) : Rho := ⟨ρ.t ++ [some p], ρ.h⟩
theorem ext_push {u : HO} (m : Sim k ρ S H) (hp : H p = none) : Ext ρ.length ρ (ρ.push p) H (upd H p u) := ⟨fun l a hl e => by rw [Rho.push, List.getElem?_append_left hl]; exact e, by simp [Rho.push, Rho.length], fun a o e _ => same_new hp a o e, fun a o w e => same_new hp a _ e, fun a ha => by
    rcases ha with ha | ha
    · rcases List.mem_append.mp ha with z | z
      · exact .inl (.inl z)
      · have : a = p := by simpa using z
        subst this; exact .inr hp
    · exact .inl (.inr ha), rfl, fun a ha => by
    obtain ⟨_, w, e, _⟩ := m.raw a ha
    rw [e, same_new hp _ _ e]⟩
/-- a new changeable object -/
theorem Sim.alloc {o : O} {u : HO} (m : Sim k ρ S H) (hp : H p = none) (ho : ORep k (ρ.push p) (upd H p u) p o) : Ext ρ.length ρ (ρ.push p) H (upd H p u) ∧ Sim k (ρ.push p) (S ++ [o]) (upd H p u) := by
  have x : Ext ρ.length ρ (ρ.push p) H (upd H p u) := ext_push m hp
  have nf : some p ∉ ρ.t := fun z => m.fresh hp (.inl z)
  have hlen : ρ.t.length = S.length := m.len
  refine ⟨x, ⟨by simp [Rho.push, Rho.length, hlen], fun a ha => ?_, fun l l' a e1 e2 => ?_, fun l o' e hd => ?_, fun l a o' e1 e2 => ?_⟩⟩
  · obtain ⟨h1, w, h2, h3⟩ := m.raw a ha
    refine ⟨fun z => ?_, w, same_new hp _ _ h2, h3⟩
    rcases List.mem_append.mp z with z | z
    · exact h1 z
    · have : a = p := by simpa using z
      rw [this, hp] at h2; cases h2
  · simp only [Rho.push] at e1 e2
    have lt1 : l < ρ.t.length + 1 := by have := (List.getElem?_eq_some_iff.mp e1).1; simpa using this
    have lt2 : l' < ρ.t.length + 1 := by have := (List.getElem?_eq_some_iff.mp e2).1; simpa using this
    by_cases h1 : l < ρ.t.length
    · rw [List.getElem?_append_left h1] at e1
      by_cases h2 : l' < ρ.t.length
      · rw [List.getElem?_append_left h2] at e2
        exact m.inj l l' a e1 e2
      · rw [List.getElem?_append_right (by omega), show l' - ρ.t.length = 0 by omega] at e2
        have : p = a := by simpa using e2
        subst this
        exact absurd (mem_rho.mpr ⟨l, e1⟩) nf
    · rw [List.getElem?_append_right (by omega), show l - ρ.t.length = 0 by omega] at e1
      have : p = a := by simpa using e1
      subst this
      by_cases h2 : l' < ρ.t.length
      · rw [List.getElem?_append_left h2] at e2
        exact absurd (mem_rho.mpr ⟨l', e2⟩) nf
      · omega
  · by_cases h1 : l < S.length
    · rw [List.getElem?_append_left h1] at e
      obtain ⟨a, ha⟩ := m.ob l o' e hd
      exact ⟨a, by rw [Rho.push, List.getElem?_append_left (by rw [hlen]; exact h1)]; exact ha⟩
    · have lt : l < S.length + 1 := by have := (List.getElem?_eq_some_iff.mp e).1; simpa using this
      exact ⟨p, by rw [Rho.push, List.getElem?_append_right (by rw [hlen]; omega), show l - ρ.t.length = 0 by rw [hlen]; omega]; rfl⟩
  · simp only [Rho.push] at e1
    by_cases h1 : l < S.length
    · rw [List.getElem?_append_left h1] at e2
      rw [List.getElem?_append_left (by rw [hlen]; exact h1)] at e1
      have q := m.at_ l a o' e1 e2
      have nap : a ≠ p := fun z => by obtain ⟨u, hu⟩ := q.some_; rw [z, hp] at hu; cases hu
      cases o' with
      | lst ds => obtain ⟨vs, q1, q2⟩ := q; exact ⟨vs, by rw [upd_ne nap]; exact q1, q2.ext m x⟩
      | dic ds => obtain ⟨vs, q1, q2⟩ := q; exact ⟨vs, by rw [upd_ne nap]; exact q1, q2.ext m x⟩
      | dicF ds => obtain ⟨o, vs, q1, q2⟩ := q; exact ⟨o, vs, by rw [upd_ne nap]; exact q1, q2.ext m x⟩
      | ins c fs => obtain ⟨dx, vs, q1, q2⟩ := q; exact ⟨dx, vs, by rw [upd_ne nap]; exact q1, q2.ext m x⟩
      | dead => exact q.elim
    · have lt : l < S.length + 1 := by have := (List.getElem?_eq_some_iff.mp e2).1; simpa using this
      rw [List.getElem?_append_right (by omega), show l - S.length = 0 by omega] at e2
      rw [List.getElem?_append_right (by rw [hlen]; omega), show l - ρ.t.length = 0 by rw [hlen]; omega] at e1
      have ea : p = a := by simpa using e1
      have eo : o = o' := by simpa using e2
      subst ea eo
      exact ho
/-- a changeable object is written -/
theorem Sim.write {l : Nat} {a : Addr} {o : O} {u : HO} (m : Sim k ρ S H) (ha : ρ.t[l]? = some (some a)) (nf : ∀ o w, H a ≠ some (.frz o w)) (ho : ∀ x : Ext ρ.length ρ ρ H (upd H a u), ORep k ρ (upd H a u) a o) : Ext ρ.length ρ ρ H (upd H a u) ∧ Sim k ρ (S.set l o) (upd H a u) := by
  have hm : some a ∈ ρ.t := mem_rho.mpr ⟨l, ha⟩
  have x : Ext ρ.length ρ ρ H (upd H a u) := ⟨fun _ _ _ h => h, Nat.le_refl _, fun b w e nb => by
    rw [upd_ne (fun z => nb (.inl (by rw [z]; exact hm)))]; exact e, fun b o w e => by
    rw [upd_ne (fun z => nf o w (by rw [← z]; exact e))]; exact e, fun _ h => .inl h, rfl, fun b hb => by
    rw [upd_ne (fun z => (m.raw b hb).1 (by rw [z]; exact hm))]⟩
  have hl : l < S.length := by rw [← m.len]; exact (List.getElem?_eq_some_iff.mp ha).1
  refine ⟨x, ⟨by simp [m.len], fun b hb => ?_, m.inj, fun l' o' e hd => ?_, fun l' b o' e1 e2 => ?_⟩⟩
  · obtain ⟨h1, w, h2, h3⟩ := m.raw b hb
    exact ⟨h1, w, by rw [upd_ne (fun z => h1 (by rw [z]; exact hm))]; exact h2, h3⟩
  · by_cases h : l' = l
    · subst h; exact ⟨a, ha⟩
    · rw [List.getElem?_set_ne (Ne.symm h)] at e
      exact m.ob l' o' e hd
  · by_cases h : l' = l
    · subst h
      rw [ha] at e1; cases e1
      rw [List.getElem?_set_self hl] at e2; cases e2
      exact ho x
    · rw [List.getElem?_set_ne (Ne.symm h)] at e2
      have nab : b ≠ a := fun z => h (m.inj l' l a (by rw [← z]; exact e1) ha)
      have q := m.at_ l' b o' e1 e2
      cases o' with
      | lst ds => obtain ⟨vs, q1, q2⟩ := q; exact ⟨vs, by rw [upd_ne nab]; exact q1, q2.ext m x⟩
      | dic ds => obtain ⟨vs, q1, q2⟩ := q; exact ⟨vs, by rw [upd_ne nab]; exact q1, q2.ext m x⟩
      | dicF ds => obtain ⟨o, vs, q1, q2⟩ := q; exact ⟨o, vs, by rw [upd_ne nab]; exact q1, q2.ext m x⟩
      | ins c fs => obtain ⟨dx, vs, q1, q2⟩ := q; exact ⟨dx, vs, by rw [upd_ne nab]; exact q1, q2.ext m x⟩
      | dead => exact q.elim
end

/-! ### operators by values -/
def OpM (k : Cn) (X : Cx) (f : Value → Value → Sem Value) (g : D → D → Option D) : Prop :=
  ∀ (ρ : Rho) (S : Sto) (dx dy d : D), g dx dy = some d → ∀ (pins : List (Addr × Obj)) (s : Shared) (σ : L2.St) (H : Hp) (x y : V) (v u : Value) (Q : VK), Inv X pins σ H s → RelV x v → RelV y u → Sim k ρ S H → RR k ρ H dx x → RR k ρ H dy y →
    (∀ z H', Same H H' → Rep k ρ H' d z → Q z H') → wpAny (model X.prog X.w) X.A (f v u) (EP X pins σ Q) X.xe s
def rM (k : Cn) (g : D → D → Option D) : R2 := fun x y H Q => ∃ ρ S dx dy d, g dx dy = some d ∧ Sim k ρ S H ∧ RR k ρ H dx x ∧ RR k ρ H dy y ∧ ∀ z H', Same H H' → Rep k ρ H' d z → Q z H'
theorem OpM.opR {k : Cn} {X : Cx} {f : Value → Value → Sem Value} {g : D → D → Option D} (h : OpM k X f g) : OpR X f (rM k g) := fun pins s σ H x y v u Q I rx ry ⟨ρ, S, dx, dy, d, e, m, r1, r2, q⟩ => h ρ S dx dy d e pins s σ H x y v u Q I rx ry m r1 r2 q
@[reducible] def liftO (o : Option D) : EM D := fun _ S => match o with
  | some d => .ok d S
  | none => .bad
@[reducible] def eOp (g : D → D → Option D) (a b : EM D) : EM D := bindE a fun x => bindE b fun y => fun e S => liftO (g (deref S x) (deref S y)) e S
section
variable {X : Cx} {k : Cn} {W : WX} {a b : Expr} {pos : Pos} {ma mb : EM D} {g : D → D → Option D}
theorem op_read {σ : L2.St} {H : Hp} {Q : VK} {β : Type} (h : tI k W (eOp g ma mb) σ H Q) : tOp (rM k g) (tI k W ma) (tI k W mb) σ H Q := by
  obtain ⟨ρ, S, e, sim, sr, h⟩ := h
  refine At.bind sim sr h fun v1 d1 ρ1 S1 H1 x1 sim1 sr1 r1 h1 => ?_
  refine At.bind sim1 sr1 h1 fun v2 d2 ρ2 S2 H2 x2 sim2 sr2 r2 h2 => ?_
  unfold liftO at h2
  split at h2
  · rename_i d q
    exact ⟨ρ2, S2, _, _, d, q, sim2, RR.of sim2 (r1.ext sim1 x2), RR.of sim2 r2, fun z H' s r => h2 z H' ρ2 (Ext.same sim2 s) (sim2.same s) r⟩
  · exact h2.elim
theorem c_op {op : Operator} (ho : OpM k X (binaryOp op) g) (ha : PE X a (tI k W ma)) (hb : PE X b (tI k W mb)) : PE X (.BinOp a op b pos) (tI k W (eOp g ma mb)) :=
  (pe_op ho.opR ha hb).imp fun _ _ _ h => op_read (β := Unit) h
theorem c_cmp {op : CmpOp} (ho : OpM k X (compareOp op) g) (ha : PE X a (tI k W ma)) (hb : PE X b (tI k W mb)) (hm : behindInMarks op b = false := by rfl) : PE X (.Compare a [op] [b] pos) (tI k W (eOp g ma mb)) :=
  (pe_cmpR ho.opR ha hb hm).imp fun _ _ _ h => op_read (β := Unit) h
/-- a value that is True or False, as a test -/
@[reducible] def asB (m : EM D) : EM Bool := bindE m fun d => fun _ S => match d with
  | .bl b => .ok b S
  | _ => .bad
theorem test_read {σ : L2.St} {H : Hp} {Q : Bool → Hp → Prop} {m : EM D} {t : TE} (ht : ∀ σ H Q, tI k W m σ H Q → t σ H Q) (h : tT k W (asB m) σ H Q) : tTest t σ H Q := by
  obtain ⟨ρ, S, e, sim, sr, h⟩ := h
  refine ht _ _ _ (At.bind sim sr h fun v d ρ1 S1 H1 x1 sim1 sr1 r1 h1 => ?_)
  cases d with
  | bl b =>
    cases r1
    exact ⟨b, rfl, h1 b H1 ρ1 Ext.refl sim1 rfl⟩
  | _ => exact (show False from h1).elim
theorem c_tcmp {op : CmpOp} (ho : OpM k X (compareOp op) g) (ha : PE X a (tI k W ma)) (hb : PE X b (tI k W mb)) (hm : behindInMarks op b = false := by rfl) : PT X (.Compare a [op] [b] pos) (tT k W (asB (eOp g ma mb))) :=
  (pt_cmpR ho.opR ha hb hm).imp fun _ _ _ h => test_read (fun _ _ _ q => op_read (β := Unit) q) h
theorem c_tval {e : Expr} {m : EM D} (h : PE X e (tI k W m)) (he : ∀ whole, isTrue e X.env whole = (do let v ← whole; standAt e.pos; holding [v] (truthy v)) := by intro _; rfl) : PT X e (tT k W (asB m)) :=
  (pt_val h he).imp fun _ _ _ h => test_read (t := tI k W m) (fun _ _ _ q => q) h
end
end Sh
set_option Elab.async false
set_option linter.all false
set_option maxRecDepth 100000
set_option maxHeartbeats 4000000
namespace Sh
open PySem L2

/-! ### and, or, not, if -/
@[reducible] def bAnd (a b : EM Bool) : EM Bool := bindE a fun c => if c = true then b else fun _ S => .ok false S
@[reducible] def bOr (a b : EM Bool) : EM Bool := bindE a fun c => if c = true then fun _ S => .ok true S else b
@[reducible] def bNot (a : EM Bool) : EM Bool := bindE a fun c => fun _ S => .ok (!c) S
@[reducible] def vAnd (a b : EM D) : EM D := bindE a fun x => match x with
  | .bl true => b
  | .bl false => fun _ S => .ok (.bl false) S
  | _ => fun _ _ => .bad
@[reducible] def vOr (a b : EM D) : EM D := bindE a fun x => match x with
  | .bl true => fun _ S => .ok (.bl true) S
  | .bl false => b
  | _ => fun _ _ => .bad
@[reducible] def vNot (a : EM D) : EM D := bindE a fun x => match x with
  | .bl c => fun _ S => .ok (.bl (!c)) S
  | _ => fun _ _ => .bad
@[reducible] def eIf (c : EM Bool) (a b : EM D) : EM D := bindE c fun t => if t = true then a else b
section
variable {X : Cx} {k : Cn} {W : WX} {a b c : Expr} {rest : List Expr} {pos : Pos} {ta tb : EM Bool} {ma mb mc : EM D}
theorem c_tand1 (ha : PT X a (tT k W ta)) : PW X (.BoolOp .And [a] pos) (tT k W ta) := pw_and1 ha
theorem c_tor1 (ha : PT X a (tT k W ta)) : PW X (.BoolOp .Or [a] pos) (tT k W ta) := pw_or1 ha
theorem c_tand (ha : PT X a (tT k W ta)) (hb : PW X (.BoolOp .And (b :: rest) pos) (tT k W tb)) : PW X (.BoolOp .And (a :: b :: rest) pos) (tT k W (bAnd ta tb)) := (pw_and ha hb).imp fun σ H Q ⟨ρ, S, e, sim, sr, h⟩ => by
  refine At.bind sim sr h fun v d ρ1 S1 H1 x1 sim1 sr1 r1 h1 => ?_
  obtain rfl : d = v := r1
  cases d with
  | true => exact ⟨ρ1, S1, e, sim1, sr1, h1⟩
  | false => exact h1 false H1 ρ1 Ext.refl sim1 rfl
theorem c_tor (ha : PT X a (tT k W ta)) (hb : PW X (.BoolOp .Or (b :: rest) pos) (tT k W tb)) : PW X (.BoolOp .Or (a :: b :: rest) pos) (tT k W (bOr ta tb)) := (pw_or ha hb).imp fun σ H Q ⟨ρ, S, e, sim, sr, h⟩ => by
  refine At.bind sim sr h fun v d ρ1 S1 H1 x1 sim1 sr1 r1 h1 => ?_
  obtain rfl : d = v := r1
  cases d with
  | false => exact ⟨ρ1, S1, e, sim1, sr1, h1⟩
  | true => exact h1 true H1 ρ1 Ext.refl sim1 rfl
theorem c_tnot (ha : PT X a (tT k W ta)) : PT X (.UnaryOp .Not a pos) (tT k W (bNot ta)) := (pt_not ha).imp fun σ H Q ⟨ρ, S, e, sim, sr, h⟩ => by
  refine At.bind sim sr h fun v d ρ1 S1 H1 x1 sim1 sr1 r1 h1 => ?_
  obtain rfl : d = v := r1
  exact h1 _ H1 ρ1 Ext.refl sim1 rfl
theorem c_one {op} (ha : PE X a (tI k W ma)) : PE X (.BoolOp op [a] pos) (tI k W ma) := pe_one ha
theorem c_and (ha : PE X a (tI k W ma)) (hb : PE X (.BoolOp .And (b :: rest) pos) (tI k W mb)) : PE X (.BoolOp .And (a :: b :: rest) pos) (tI k W (vAnd ma mb)) := (pe_and ha hb).imp fun σ H Q ⟨ρ, S, e, sim, sr, h⟩ => by
  refine At.bind sim sr h fun v d ρ1 S1 H1 x1 sim1 sr1 r1 h1 => ?_
  cases d with
  | bl c =>
    cases r1
    cases c with
    | true => exact ⟨true, rfl, ρ1, S1, e, sim1, sr1, h1⟩
    | false => exact ⟨false, rfl, h1 _ H1 ρ1 Ext.refl sim1 (.bl false)⟩
  | _ => exact (show False from h1).elim
theorem c_or (ha : PE X a (tI k W ma)) (hb : PE X (.BoolOp .Or (b :: rest) pos) (tI k W mb)) : PE X (.BoolOp .Or (a :: b :: rest) pos) (tI k W (vOr ma mb)) := (pe_or ha hb).imp fun σ H Q ⟨ρ, S, e, sim, sr, h⟩ => by
  refine At.bind sim sr h fun v d ρ1 S1 H1 x1 sim1 sr1 r1 h1 => ?_
  cases d with
  | bl c =>
    cases r1
    cases c with
    | false => exact ⟨false, rfl, ρ1, S1, e, sim1, sr1, h1⟩
    | true => exact ⟨true, rfl, h1 _ H1 ρ1 Ext.refl sim1 (.bl true)⟩
  | _ => exact (show False from h1).elim
theorem c_not (ha : PE X a (tI k W ma)) : PE X (.UnaryOp .Not a pos) (tI k W (vNot ma)) := (pe_not ha).imp fun σ H Q ⟨ρ, S, e, sim, sr, h⟩ => by
  refine At.bind sim sr h fun v d ρ1 S1 H1 x1 sim1 sr1 r1 h1 => ?_
  cases d with
  | bl c =>
    cases r1
    exact ⟨c, rfl, h1 _ H1 ρ1 Ext.refl sim1 (.bl _)⟩
  | _ => exact (show False from h1).elim
theorem c_if (hc : PT X c (tT k W ta)) (ha : PE X a (tI k W ma)) (hb : PE X b (tI k W mb)) : PE X (.IfExp c a b pos) (tI k W (eIf ta ma mb)) := (pe_ifExp hc ha hb).imp fun σ H Q ⟨ρ, S, e, sim, sr, h⟩ => by
  refine At.bind sim sr h fun v d ρ1 S1 H1 x1 sim1 sr1 r1 h1 => ?_
  obtain rfl : d = v := r1
  cases d with
  | true => exact ⟨ρ1, S1, e, sim1, sr1, h1⟩
  | false => exact ⟨ρ1, S1, e, sim1, sr1, h1⟩
@[reducible] def eChain (g g' : D → D → Option D) (a b c : EM D) : EM D := bindE a fun x => bindE b fun y => fun e S => match g (deref S x) (deref S y) with
  | some (.bl true) => bindE c (fun z e S => liftO (g' (deref S y) (deref S z)) e S) e S
  | some (.bl false) => .ok (.bl false) S
  | _ => .bad
theorem chain_read {g g' : D → D → Option D} {σ : L2.St} {H : Hp} {Q : VK} (h : tI k W (eChain g g' ma mb mc) σ H Q) : tChain (rM k g) (rM k g') (tI k W ma) (tI k W mb) (tI k W mc) σ H Q := by
  obtain ⟨ρ, S, e, sim, sr, h⟩ := h
  refine At.bind sim sr h fun v1 d1 ρ1 S1 H1 x1 sim1 sr1 r1 h1 => ?_
  refine At.bind sim1 sr1 h1 fun v2 d2 ρ2 S2 H2 x2 sim2 sr2 r2 h2 => ?_
  have r1' := r1.ext sim1 x2
  split at h2
  · rename_i q
    refine ⟨ρ2, S2, _, _, .bl true, q, sim2, RR.of sim2 r1', RR.of sim2 r2, fun z H3 s3 r3 => ?_⟩
    cases r3
    refine ⟨true, rfl, ?_⟩
    rw [if_pos rfl]
    have sim3 := sim2.same s3
    refine At.bind sim3 (sr2.ext sim2 (Ext.same sim2 s3)) (At.ext (Ext.same sim2 s3) h2) fun v4 d4 ρ4 S4 H4 x4 sim4 sr4 r4 h4 => ?_
    unfold liftO at h4
    split at h4
    · rename_i d q4
      exact ⟨ρ4, S4, _, _, d, q4, sim4, RR.of sim4 ((r2.same sim2 s3).ext sim3 x4), RR.of sim4 r4, fun z H' s r => h4 z H' ρ4 (Ext.same sim4 s) (sim4.same s) r⟩
    · exact h4.elim
  · rename_i q
    refine ⟨ρ2, S2, _, _, .bl false, q, sim2, RR.of sim2 r1', RR.of sim2 r2, fun z H3 s3 r3 => ?_⟩
    cases r3
    refine ⟨false, rfl, ?_⟩
    rw [if_neg Bool.false_ne_true]
    exact h2 _ H3 ρ2 (Ext.same sim2 s3) (sim2.same s3) (.bl false)
  · exact h2.elim
theorem c_chain {op op' : CmpOp} {g g' : D → D → Option D} (ho : OpM k X (compareOp op) g) (ho' : OpM k X (compareOp op') g') (ha : PE X a (tI k W ma)) (hb : PE X b (tI k W mb)) (hc : PE X c (tI k W mc)) (hm : lastMarks [op, op'] [b, c] = false := by with_unfolding_all rfl) :
    PE X (.Compare a [op, op'] [b, c] pos) (tI k W (eChain g g' ma mb mc)) := (pe_chain ho.opR ho'.opR ha hb hc hm).imp fun _ _ _ h => chain_read h
end

/-! ### arguments, displays -/
@[reducible] def eNil : EM (List D) := fun _ S => .ok [] S
@[reducible] def eCons (a : EM D) (r : EM (List D)) : EM (List D) := bindE a fun x => bindE r fun xs => fun _ S => .ok (x :: xs) S
@[reducible] def eTup (r : EM (List D)) : EM D := bindE r fun xs => fun _ S => if xs.length ≤ 1000 then .ok (.tup xs) S else .bad
@[reducible] def eLst (r : EM (List D)) : EM D := bindE r fun xs => fun _ S => if xs.length ≤ 1000 then .ok (.lst xs) S else .bad
@[reducible] def eLstN (r : EM (List D)) : EM D := bindE r fun xs => fun _ S => if xs.length ≤ 1000 then .ok (.loc S.length) (S ++ [.lst xs]) else .bad
section
variable {X : Cx} {k : Cn} {W : WX} {a : Expr} {es : List Expr} {pos : Pos} {ma : EM D} {mr : EM (List D)}
theorem c_anil : PA X [] (tL k W eNil) := pa_nil.imp fun σ H Q ⟨ρ, S, e, sim, sr, h⟩ => h [] H ρ Ext.refl sim .nil
theorem c_acons (ha : PE X a (tI k W ma)) (hr : PA X es (tL k W mr)) (hs : starEach (a :: es) X.env = (false, eval a X.env) :: starEach es X.env := by rfl) : PA X (a :: es) (tL k W (eCons ma mr)) := (pa_cons ha hr hs).imp fun σ H Q ⟨ρ, S, e, sim, sr, h⟩ => by
  refine At.bind sim sr h fun v1 d1 ρ1 S1 H1 x1 sim1 sr1 r1 h1 => ?_
  refine At.bind sim1 sr1 h1 fun v2 d2 ρ2 S2 H2 x2 sim2 sr2 r2 h2 => ?_
  exact h2 _ H2 ρ2 Ext.refl sim2 (.cons (r1.ext sim1 x2) r2)
theorem size1000 {n : Nat} (h : n ≤ 1000) : n ≤ sizeLine := Nat.le_trans h (by decide)
theorem c_tup {x1} (h : PA X es (tL k W mr)) : PE X (.Tuple es x1 pos) (tI k W (eTup mr)) := (pe_tup h).imp fun σ H Q ⟨ρ, S, e, sim, sr, h⟩ => by
  refine At.bind sim sr h fun v d ρ1 S1 H1 x1 sim1 sr1 r1 h1 => ?_
  split at h1
  · rename_i q
    refine ⟨size1000 (by rw [← Reps.length r1]; exact q), fun p hp => ?_⟩
    exact h1 _ _ ρ1 (Ext.same sim1 (same_new hp)) (sim1.same (same_new hp)) (Rep.newT sim1 hp r1)
  · exact h1.elim
theorem c_lst (h : PA X es (tL k W mr)) : PE X (.List es pos) (tI k W (eLst mr)) := (pe_lst h).imp fun σ H Q ⟨ρ, S, e, sim, sr, h⟩ => by
  refine At.bind sim sr h fun v d ρ1 S1 H1 x1 sim1 sr1 r1 h1 => ?_
  split at h1
  · rename_i q
    refine ⟨size1000 (by rw [← Reps.length r1]; exact q), fun p hp => ?_⟩
    exact h1 _ _ ρ1 (Ext.same sim1 (same_new hp)) (sim1.same (same_new hp)) (Rep.newL sim1 hp r1)
  · exact h1.elim
theorem rho_last {ρ : Rho} {S : Sto} {H : Hp} {p : Addr} (m : Sim k ρ S H) : (ρ.push p).t[S.length]? = some (some p) := by
  have hlen : ρ.t.length = S.length := m.len
  rw [← hlen, Rho.push, List.getElem?_append_right (Nat.le_refl _), Nat.sub_self]; rfl
theorem ORep.newL {ρ : Rho} {S : Sto} {H : Hp} {p : Addr} {ds : List D} {vs : List V} (m : Sim k ρ S H) (hp : H p = none) (r : Reps k ρ H ds vs) : ORep k (ρ.push p) (upd H p (.lst vs)) p (.lst ds) :=
  ⟨vs, upd_same, r.ext m (ext_push m hp)⟩
theorem c_lstN (h : PA X es (tL k W mr)) : PE X (.List es pos) (tI k W (eLstN mr)) := (pe_lst h).imp fun σ H Q ⟨ρ, S, e, sim, sr, h⟩ => by
  refine At.bind sim sr h fun v d ρ1 S1 H1 x1 sim1 sr1 r1 h1 => ?_
  split at h1
  · rename_i q
    refine ⟨size1000 (by rw [← Reps.length r1]; exact q), fun p hp => ?_⟩
    obtain ⟨x, m⟩ := sim1.alloc hp (ORep.newL sim1 hp r1)
    exact h1 _ _ _ x m (.loc (rho_last sim1))
  · exact h1.elim
end

/-! ### statements -/
inductive RS where
  | nx (e : Env) (S : Sto) | rt (d : D) (S : Sto) | bk (e : Env) (S : Sto) | ct (e : Env) (S : Sto) | ex (x : Exn) (e : Env) (S : Sto) | bad
abbrev SM := Env → Sto → RS
def AtS (k : Cn) (W : WX) (n : Nat) (ρ : Rho) (H : Hp) (r : RS) (E : Ends) : Prop := match r with
  | .nx e' S' => ∀ σ' H' ρ', Ext ρ.length ρ ρ' H H' → Sim k ρ' S' H' → SRep k ρ' H' e' σ' → E.nx σ' H'
  | .bk e' S' => ∀ σ' H' ρ', Ext ρ.length ρ ρ' H H' → Sim k ρ' S' H' → SRep k ρ' H' e' σ' → E.bk σ' H'
  | .ct e' S' => ∀ σ' H' ρ', Ext ρ.length ρ ρ' H H' → Sim k ρ' S' H' → SRep k ρ' H' e' σ' → E.ct σ' H'
  | .rt d S' => ∀ v H' ρ', Ext n ρ ρ' H H' → Sim k ρ' S' H' → Rep k ρ' H' d v → E.rt v H'
  | .ex x e' S' => ∀ c d σ' H' ρ', Ext ρ.length ρ ρ' H H' → Sim k ρ' S' H' → SRep k ρ' H' e' σ' → XRep k ρ' H' x c d → W c d σ' H'
  | .bad => False
theorem AtS.ext {k : Cn} {W : WX} {n : Nat} {ρ ρ1 : Rho} {H H1 : Hp} {r : RS} {E : Ends} (hn : n ≤ ρ.length) (x : Ext ρ.length ρ ρ1 H H1) (h : AtS k W n ρ H r E) : AtS k W n ρ1 H1 r E := by
  cases r with
  | nx e S => exact fun σ' H' ρ' x' => h σ' H' ρ' (x.tr x')
  | bk e S => exact fun σ' H' ρ' x' => h σ' H' ρ' (x.tr x')
  | ct e S => exact fun σ' H' ρ' x' => h σ' H' ρ' (x.tr x')
  | rt d S => exact fun v H' ρ' x' => h v H' ρ' ((x.less hn).trans x' (Nat.le_refl _))
  | ex y e S => exact fun c d σ' H' ρ' x' => h c d σ' H' ρ' (x.tr x')
  | bad => exact h
def tS (k : Cn) (W : WX) (n : Nat) (m : SM) : TS := fun E σ H => ∃ ρ S e, n ≤ ρ.length ∧ Sim k ρ S H ∧ SRep k ρ H e σ ∧ AtS k W n ρ H (m e S) E
def tG (k : Cn) (W : WX) (n : Nat) (g : D → SM) : TG := fun v σ H Q => ∃ ρ S e d, n ≤ ρ.length ∧ Sim k ρ S H ∧ SRep k ρ H e σ ∧ Rep k ρ H d v ∧ AtS k W n ρ H (g d e S) { nx := Q, rt := fun _ _ => False }
@[reducible] def sBind {α : Type} (m : EM α) (f : α → SM) : SM := fun e S => match m e S with
  | .ok a S' => f a e S'
  | .ex x S' => .ex x e S'
  | .bad => .bad
theorem AtS.bind {α β : Type} {k : Cn} {Rp : Rho → Hp → α → β → Prop} {W : WX} {n : Nat} {ρ : Rho} {S : Sto} {e : Env} {σ : L2.St} {H : Hp} {m : EM α} {f : α → SM} {E : Ends} {R : β → Hp → Prop}
    (hn : n ≤ ρ.length) (sim : Sim k ρ S H) (sr : SRep k ρ H e σ) (h : AtS k W n ρ H (sBind m f e S) E)
    (cont : ∀ v d ρ1 S1 H1, n ≤ ρ1.length → Ext ρ.length ρ ρ1 H H1 → Sim k ρ1 S1 H1 → SRep k ρ1 H1 e σ → Rp ρ1 H1 d v → AtS k W n ρ1 H1 (f d e S1) E → R v H1) : tR k Rp W m σ H R := by
  refine ⟨ρ, S, e, sim, sr, ?_⟩
  unfold sBind at h
  cases q : m e S with
  | ok a S' =>
    rw [q] at h
    exact fun v H' ρ' x s' r => cont v a ρ' S' H' (Nat.le_trans hn x.len) x s' (sr.ext sim x) r (AtS.ext hn x h)
  | ex x S' =>
    rw [q] at h
    exact fun c d H' ρ' x s' r => h c d σ H' ρ' x s' (sr.ext sim x) r
  | bad =>
    rw [q] at h
    exact h
@[reducible] def sNil : SM := fun e S => .nx e S
@[reducible] def sSeq (a b : SM) : SM := fun e S => match a e S with
  | .nx e' S' => b e' S'
  | r => r
@[reducible] def sExpr (m : EM D) : SM := sBind m fun _ e S => .nx e S
@[reducible] def sRet (m : EM D) : SM := sBind m fun d _ S => .rt d S
@[reducible] def sRetN : SM := fun _ S => .rt .non S
@[reducible] def sIf (c : EM Bool) (a b : SM) : SM := sBind c fun t => if t = true then a else b
@[reducible] def onlyN (r : RS) : RS := match r with
  | .nx e S => .nx e S
  | .ex x e S => .ex x e S
  | _ => .bad
@[reducible] def sAsg (m : EM D) (g : D → SM) : SM := sBind m fun d e S => onlyN (g d e S)
@[reducible] def gVar (i : Nat) : D → SM := fun d e S => .nx (e.set i (some d)) S
section
variable {X : Cx} {k : Cn} {W : WX} {n : Nat} {a c : Expr} {st : Stmt} {rest body : List Stmt} {pos : Pos} {ma : EM D} {mc : EM Bool} {m1 m2 : SM}
theorem s_nil : PSs X [] (tS k W n sNil) := pss_nil.imp fun E σ H ⟨ρ, S, e, hn, sim, sr, h⟩ => h σ H ρ Ext.refl sim sr
theorem seq_read {E : Ends} {σ : L2.St} {H : Hp} (h : tS k W n (sSeq m1 m2) E σ H) : tSeq (tS k W n m1) (tS k W n m2) E σ H := by
  obtain ⟨ρ, S, e, hn, sim, sr, h⟩ := h
  refine ⟨ρ, S, e, hn, sim, sr, ?_⟩
  unfold sSeq at h
  cases q : m1 e S with
  | nx e' S' =>
    rw [q] at h
    exact fun σ' H' ρ' x s' r => ⟨ρ', S', e', Nat.le_trans hn x.len, s', r, AtS.ext hn x h⟩
  | _ => rw [q] at h; exact h
theorem s_cons (h1 : PS X st (tS k W n m1)) (h2 : PSs X rest (tS k W n m2)) : PSs X (st :: rest) (tS k W n (sSeq m1 m2)) := (pss_cons h1 h2).imp fun _ _ _ h => seq_read h
theorem s_one (h1 : PS X st (tS k W n m1)) : PSs X [st] (tS k W n m1) := pss_one h1
theorem s_pass : PS X (.Pass pos) (tS k W n sNil) := ps_pass.imp fun E σ H ⟨ρ, S, e, hn, sim, sr, h⟩ => h σ H ρ Ext.refl sim sr
theorem s_break : PS X (.Break pos) (tS k W n fun e S => .bk e S) := ps_break.imp fun E σ H ⟨ρ, S, e, hn, sim, sr, h⟩ => h σ H ρ Ext.refl sim sr
theorem s_continue : PS X (.Continue pos) (tS k W n fun e S => .ct e S) := ps_continue.imp fun E σ H ⟨ρ, S, e, hn, sim, sr, h⟩ => h σ H ρ Ext.refl sim sr
theorem s_expr (he : PE X a (tI k W ma)) (hs : swapsWith a none pos.line X.env = pure false := by rfl) : PS X (.Expr a pos) (tS k W n (sExpr ma)) := (ps_expr he hs).imp fun E σ H ⟨ρ, S, e, hn, sim, sr, h⟩ => by
  refine AtS.bind hn sim sr h fun v d ρ1 S1 H1 hn1 x1 sim1 sr1 r1 h1 => ?_
  exact h1 σ H1 ρ1 Ext.refl sim1 sr1
theorem s_ret (he : PE X a (tI k W ma)) : PS X (.Return (some a) pos) (tS k W n (sRet ma)) := (ps_ret he).imp fun E σ H ⟨ρ, S, e, hn, sim, sr, h⟩ => by
  refine AtS.bind hn sim sr h fun v d ρ1 S1 H1 hn1 x1 sim1 sr1 r1 h1 => ?_
  exact h1 v H1 ρ1 Ext.refl sim1 r1
theorem s_retN : PS X (.Return none pos) (tS k W n sRetN) := ps_retN.imp fun E σ H ⟨ρ, S, e, hn, sim, sr, h⟩ => h _ H ρ Ext.refl sim .non
theorem s_if (hc : PT X c (tT k W mc)) (ha : PSs X rest (tS k W n m1)) (hb : PSs X body (tS k W n m2)) : PS X (.If c rest body pos) (tS k W n (sIf mc m1 m2)) := (ps_if hc ha hb).imp fun E σ H ⟨ρ, S, e, hn, sim, sr, h⟩ => by
  refine AtS.bind hn sim sr h fun v d ρ1 S1 H1 hn1 x1 sim1 sr1 r1 h1 => ?_
  obtain rfl : d = v := r1
  cases d with
  | true => exact ⟨ρ1, S1, e, hn1, sim1, sr1, h1⟩
  | false => exact ⟨ρ1, S1, e, hn1, sim1, sr1, h1⟩
theorem SRep.set {ρ : Rho} {H : Hp} {e : Env} {σ : L2.St} {d : D} {v : V} (i : Nat) (sr : SRep k ρ H e σ) (r : Rep k ρ H d v) : SRep k ρ H (e.set i (some d)) (σ.set i (some v)) := by
  refine ⟨by simp [sr.1], fun j d' q => ?_⟩
  by_cases h : j = i
  · subst h
    have hl : j < e.length := by have := (List.getElem?_eq_some_iff.mp q).1; simpa using this
    rw [List.getElem?_set_self hl] at q
    cases q
    exact ⟨v, by rw [List.getElem?_set_self (by rw [← sr.1]; exact hl)], r⟩
  · rw [List.getElem?_set_ne (Ne.symm h)] at q
    obtain ⟨w, q1, q2⟩ := sr.2 j d' q
    exact ⟨w, by rw [List.getElem?_set_ne (Ne.symm h)]; exact q1, q2⟩
theorem g_var (i : Nat) {x : Str} (hN : X.N.Nodup) (hi : X.N[i]? = some x := by rfl) (hx : Loc X.env.scope x := by first | exact Or.inl rfl | exact Or.inr rfl) (hf : X.fn x = true ∨ X.env.scope.names.lookup x = some .local := by first | exact .inl rfl | exact .inr rfl | assumption) :
    PG X (.Name x pos) (tG k W n (gVar i)) := (pg_name hN hi hx hf).imp fun v σ H Q ⟨ρ, S, e, d, hn, sim, sr, r, h⟩ => h _ H ρ Ext.refl sim (sr.set i r)
/-- several targets -/
def tGs (k : Cn) (W : WX) (n : Nat) (g : List D → SM) : TGs := fun vs σ H Q => ∃ ρ S e ds, n ≤ ρ.length ∧ Sim k ρ S H ∧ SRep k ρ H e σ ∧ Reps k ρ H ds vs ∧ AtS k W n ρ H (g ds e S) { nx := Q, rt := fun _ _ => False }
@[reducible] def gNone : List D → SM := fun ds e S => match ds with
  | [] => .nx e S
  | _ => .bad
@[reducible] def gMore (g : D → SM) (r : List D → SM) : List D → SM := fun ds => match ds with
  | d :: ds => sSeq (g d) (r ds)
  | [] => fun _ _ => .bad
@[reducible] def gTupM (m : Nat) (g : List D → SM) : D → SM := fun d e S => match d with
  | .tup ds => if ds.length = m then g ds e S else .bad
  | _ => .bad
theorem gs_nil : PGs X [] (tGs k W n gNone) := ⟨fun pins s σ H vs us Q I r ⟨ρ, S, e, ds, hn, sim, sr, rs, h⟩ => by
  cases rs with
  | nil => exact pgs_nil.run pins s σ H _ us Q I r ⟨rfl, h σ H ρ Ext.refl sim sr⟩
  | cons _ _ => exact (show False from h).elim⟩
theorem gs_cons {es : List Expr} {g : D → SM} {r : List D → SM} (h1 : PG X a (tG k W n g)) (h2 : PGs X es (tGs k W n r)) (hs : (assignEach (a :: es) X.env).map (·.2) = assign a X.env :: (assignEach es X.env).map (·.2) := by rfl) : PGs X (a :: es) (tGs k W n (gMore g r)) :=
  ⟨fun pins s σ H vs us Q I rv ⟨ρ, S, e, ds, hn, sim, sr, rs, h⟩ => by
  cases rs with
  | nil => exact (show False from h).elim
  | @cons d v ds vs r1 r2 =>
    refine (pgs_cons h1 h2 hs).run pins s σ H _ us Q I rv ⟨v, vs, rfl, ρ, S, e, d, hn, sim, sr, r1, ?_⟩
    have h' : AtS k W n ρ H (sSeq (g d) (r ds) e S) { nx := Q, rt := fun _ _ => False } := h
    unfold sSeq at h'
    cases q : g d e S with
    | nx e' S' =>
      rw [q] at h'
      exact fun σ' H' ρ' x s' sr' => ⟨ρ', S', e', ds, Nat.le_trans hn x.len, s', sr', r2.ext sim x, AtS.ext hn x h'⟩
    | _ => rw [q] at h'; exact h'⟩
theorem g_tup {es : List Expr} {k' m : Nat} {g : List D → SM} (hc : X.calm = true) (h : PGs X es (tGs k W n g)) (hK : k.K = X.K := by rfl)
    (hn : (assignEach es X.env).length = m := by rfl) (hst : (assignEach es X.env).findIdx? (·.1) = none := by rfl) : PG X (.Tuple es k' pos) (tG k W n (gTupM m g)) :=
  (pg_tup hc h hn hst).imp fun v σ H Q ⟨ρ, S, e, d, hn', sim, sr, r, h⟩ => by
  cases r with
  | @tup ad vs ds hs hr =>
    by_cases hl : ds.length = m
    · have h' : AtS k W n ρ H (g ds e S) { nx := Q, rt := fun _ _ => False } := by
        have h2 : AtS k W n ρ H (if ds.length = m then g ds e S else .bad) { nx := Q, rt := fun _ _ => False } := h
        rw [if_pos hl] at h2; exact h2
      exact ⟨_, _, rfl, by rw [← hK]; exact hs, by rw [← hr.length]; exact hl, ρ, S, e, ds, hn', sim, sr, hr, h'⟩
    · have h2 : AtS k W n ρ H (if ds.length = m then g ds e S else .bad) { nx := Q, rt := fun _ _ => False } := h
      rw [if_neg hl] at h2; exact h2.elim
  | _ => exact (show False from h).elim
theorem s_set (i : Nat) {x : Str} {pos' : Pos} (hN : X.N.Nodup) (he : PE X a (tI k W ma)) (hi : X.N[i]? = some x := by rfl) (hx : Loc X.env.scope x := by first | exact Or.inl rfl | exact Or.inr rfl) (hs : swapsWith a (some (.Name x pos')) pos.line X.env = pure false := by rfl)
    (hf : X.fn x = true ∨ X.env.scope.names.lookup x = some .local := by first | exact .inl rfl | exact .inr rfl | assumption) : PS X (.Assign [.Name x pos'] a pos) (tS k W n (sAsg ma (gVar i))) := (ps_set hN hi hx he hs hf).imp fun E σ H ⟨ρ, S, e, hn, sim, sr, h⟩ => by
  refine AtS.bind hn sim sr h fun v d ρ1 S1 H1 hn1 x1 sim1 sr1 r1 h1 => ?_
  exact h1 _ H1 ρ1 Ext.refl sim1 (sr1.set i r1)
theorem asg_read {g : D → SM} {E : Ends} {σ : L2.St} {H : Hp} (h : tS k W n (sAsg ma g) E σ H) : tAsg (tI k W ma) (tG k W n g) E σ H := by
  obtain ⟨ρ, S, e, hn, sim, sr, h⟩ := h
  refine AtS.bind hn sim sr h fun v d ρ1 S1 H1 hn1 x1 sim1 sr1 r1 h1 => ?_
  refine ⟨ρ1, S1, e, d, hn1, sim1, sr1, r1, ?_⟩
  cases q : g d e S1 with
  | nx e' S' => rw [q] at h1; exact h1
  | ex x e' S' => rw [q] at h1; exact h1
  | _ => rw [q] at h1; exact (show False from h1).elim
theorem s_asg {tg : Expr} {g : D → SM} (he : PE X a (tI k W ma)) (hg : PG X tg (tG k W n g)) (hs : swapsWithSole [tg] a pos.line X.env = pure false := by rfl) (hw : swappedStores [tg] a X.env = pure none := by rfl)
    (h1 : (assignEach [tg] X.env).map (·.2) = [assign tg X.env] := by rfl) : PS X (.Assign [tg] a pos) (tS k W n (sAsg ma g)) := (ps_asg he hg hs hw h1).imp fun _ _ _ h => asg_read h
/-- a, b = x, y -/
@[reducible] def sPar (i j : Nat) (m : EM (List D)) : SM := sBind m fun ds e S => match ds with
  | [d, d'] => .nx ((e.set i (some d)).set j (some d')) S
  | _ => .bad
theorem s_par (i j : Nat) {x y : Str} {b : Expr} {mr : EM (List D)} {px py pt : Pos} {kt k2 pt2} (hc : X.calm = true) (hN : X.N.Nodup) (ha : PA X [a, b] (tL k W mr)) (hij : i ≠ j := by decide) (hi : X.N[i]? = some x := by rfl) (hj : X.N[j]? = some y := by rfl)
    (hx : X.env.scope.names.lookup x = some .local := by rfl) (hy : X.env.scope.names.lookup y = some .local := by rfl)
    (hw : swappedStores [.Tuple [.Name x px, .Name y py] kt pt] (.Tuple [a, b] k2 pt2) X.env = pure (some [x, y]) := by rfl)
    (hs : swapsWithSole [.Tuple [.Name x px, .Name y py] kt pt] (.Tuple [a, b] k2 pt2) pos.line X.env = pure false := by rfl) :
    PS X (.Assign [.Tuple [.Name x px, .Name y py] kt pt] (.Tuple [a, b] k2 pt2) pos) (tS k W n (sPar i j mr)) := (ps_par hc hN hi hj hij hx hy ha hw hs).imp fun E σ H ⟨ρ, S, e, hn, sim, sr, h⟩ => by
  refine AtS.bind hn sim sr h fun v d ρ1 S1 H1 hn1 x1 sim1 sr1 r1 h1 => ?_
  cases r1 with
  | nil => exact (show False from h1).elim
  | cons ra rr =>
    cases rr with
    | nil => exact (show False from h1).elim
    | cons rb rr =>
      cases rr with
      | nil => exact ⟨_, _, rfl, h1 _ H1 ρ1 Ext.refl sim1 ((sr1.set i ra).set j rb)⟩
      | cons _ _ => exact (show False from h1).elim
end
end Sh
set_option Elab.async false
set_option linter.all false
set_option maxRecDepth 100000
set_option maxHeartbeats 4000000
namespace Sh
open PySem L2

/-! ### what is walked -/
inductive Src where
  | st (ds : List D) | li (l : Nat)
@[reducible] def item (S : Sto) (i : Nat) : Src → Option (Option D)
  | .st ds => some ds[i]?
  | .li l => match S[l]? with
    | some (.lst xs) => some xs[i]?
    | _ => none
@[reducible] def fuelOf : Src → Nat
  | .st ds => ds.length + 1
  | .li _ => 100001
structure Yld (k : Cn) (ρ : Rho) (H : Hp) (src : Src) (J : It) : Prop where
  go : ∀ ρ' S' H' i d, Ext0 ρ.length ρ ρ' H H' → Sim k ρ' S' H' → item S' i src = some (some d) → J.go i H'
  yld : ∀ ρ' S' H' i d x H2, Ext0 ρ.length ρ ρ' H H' → Sim k ρ' S' H' → item S' i src = some (some d) → J.yld i H' x H2 → Same H' H2 ∧ Rep k ρ' H2 d x
  stop : ∀ ρ' S' H' i, Ext0 ρ.length ρ ρ' H H' → Sim k ρ' S' H' → item S' i src = some none → J.stop i H'
abbrev tSrc (k : Cn) (W : WX) (m : EM Src) : TI := tR k (Yld k) W m

def sLoopF (g : D → SM) (body : SM) : Nat → Src → Nat → SM
  | 0, _, _, _, _ => .bad
  | f + 1, src, i, e, S => match item S i src with
    | none => .bad
    | some none => .nx e S
    | some (some d) => match g d e S with
      | .nx e1 S1 => match body e1 S1 with
        | .nx e2 S2 => sLoopF g body f src (i + 1) e2 S2
        | .ct e2 S2 => sLoopF g body f src (i + 1) e2 S2
        | .bk e2 S2 => .nx e2 S2
        | r => r
      | .ex x e1 S1 => .ex x e1 S1
      | _ => .bad
def sLoop (g : D → SM) (body : SM) : List D → SM
  | [], e, S => .nx e S
  | d :: ds, e, S => match g d e S with
    | .nx e1 S1 => match body e1 S1 with
      | .nx e2 S2 => sLoop g body ds e2 S2
      | .ct e2 S2 => sLoop g body ds e2 S2
      | .bk e2 S2 => .nx e2 S2
      | r => r
    | .ex x e1 S1 => .ex x e1 S1
    | _ => .bad
theorem sLoopF_st (g : D → SM) (body : SM) (all : List D) : ∀ (ds : List D) (i f : Nat) (e : Env) (S : Sto), all.drop i = ds → ds.length < f → sLoopF g body f (.st all) i e S = sLoop g body ds e S
  | [], i, f + 1, e, S, hd, _ => by
    have h : all[i]? = none := by
      rw [List.getElem?_eq_none_iff]; have := congrArg List.length hd; simp at this; omega
    simp only [sLoopF, item, h, sLoop]
  | d :: ds, i, f + 1, e, S, hd, hf => by
    have h : all[i]? = some d := by rw [← List.head?_drop, hd]; rfl
    have hd' : all.drop (i + 1) = ds := by rw [← List.tail_drop, hd]; rfl
    simp only [sLoopF, item, h, sLoop]
    cases g d e S with
    | nx e1 S1 =>
      simp only
      cases body e1 S1 with
      | nx e2 S2 => exact sLoopF_st g body all ds (i + 1) f e2 S2 hd' (by simp at hf; omega)
      | ct e2 S2 => exact sLoopF_st g body all ds (i + 1) f e2 S2 hd' (by simp at hf; omega)
      | _ => rfl
    | _ => rfl
@[reducible] def sFor (m : EM Src) (g : D → SM) (body : SM) : SM := sBind m fun src => sLoopF g body (fuelOf src) src 0
theorem sFor_st {m : EM Src} {g : D → SM} {body : SM} {e : Env} {S S' : Sto} {ds : List D} (h : m e S = .ok (.st ds) S') : sFor m g body e S = sLoop g body ds e S' := by
  simp only [sFor, sBind, h]
  exact sLoopF_st g body ds ds 0 _ e S' rfl (Nat.lt_succ_self _)
section
variable {X : Cx} {k : Cn} {W : WX} {n : Nat} {tg iter : Expr} {body : List Stmt} {pos : Pos} {m : EM Src} {g : D → SM} {mb : SM}
theorem for_read {E : Ends} {σ : L2.St} {H : Hp} (h : tS k W n (sFor m g mb) E σ H) : tFor (tSrc k W m) (tG k W n g) (tS k W n mb) E σ H := by
  obtain ⟨ρ, S, e, hn, sim, sr, h⟩ := h
  refine AtS.bind hn sim sr h fun J src ρ1 S1 H1 hn1 x1 sim1 sr1 yl h1 => ?_
  refine ⟨fun i mm σ' H' => ∃ ρ' S' e', Ext ρ1.length ρ1 ρ' H1 H' ∧ Sim k ρ' S' H' ∧ SRep k ρ' H' e' σ' ∧ AtS k W n ρ' H' (sLoopF g mb mm src i e' S') E, ⟨fuelOf src, ρ1, S1, e, Ext.refl, sim1, sr1, h1⟩, ?_⟩
  rintro i mm σ' H' ⟨ρ', S', e', x', sim', sr', h'⟩
  have hn' : n ≤ ρ'.length := Nat.le_trans hn1 x'.len
  cases mm with
  | zero => exact (show False from h').elim
  | succ f =>
    rw [sLoopF] at h'
    cases q : item S' i src with
    | none => rw [q] at h'; exact (show False from h').elim
    | some o =>
      rw [q] at h'
      cases o with
      | none => exact .inl ⟨yl.stop ρ' S' H' i x'.to0 sim' q, h' σ' H' ρ' Ext.refl sim' sr'⟩
      | some d =>
        refine .inr ⟨yl.go ρ' S' H' i d x'.to0 sim' q, _, fun σ2 H2 w => ⟨f, Nat.lt_succ_self _, w⟩, fun x H2 y => ?_⟩
        obtain ⟨sa, rx⟩ := yl.yld ρ' S' H' i d x H2 x'.to0 sim' q y
        have xs : Ext ρ'.length ρ' ρ' H' H2 := Ext.same sim' sa
        refine ⟨ρ', S', e', d, hn', sim'.same sa, sr'.ext sim' xs, rx, ?_⟩
        have h2 := AtS.ext hn' xs h'
        cases qg : g d e' S' with
        | nx e1 S3 =>
          simp only [qg] at h2
          intro σ3 H3 ρ3 x3 sim3 sr3
          refine ⟨ρ3, S3, e1, Nat.le_trans hn' x3.len, sim3, sr3, ?_⟩
          have h3 := AtS.ext hn' x3 h2
          have hn3 : n ≤ ρ3.length := Nat.le_trans hn' x3.len
          cases qb : mb e1 S3 with
          | nx e2 S4 =>
            simp only [qb] at h3
            intro σ4 H4 ρ4 x4 sim4 sr4
            exact ⟨ρ4, S4, e2, ((x'.tr xs).tr x3).tr x4, sim4, sr4, AtS.ext hn3 x4 h3⟩
          | ct e2 S4 =>
            simp only [qb] at h3
            intro σ4 H4 ρ4 x4 sim4 sr4
            exact ⟨ρ4, S4, e2, ((x'.tr xs).tr x3).tr x4, sim4, sr4, AtS.ext hn3 x4 h3⟩
          | bk e2 S4 => simp only [qb] at h3; exact h3
          | rt d2 S4 => simp only [qb] at h3; exact h3
          | ex y2 e2 S4 => simp only [qb] at h3; exact h3
          | bad => simp only [qb] at h3; exact h3
        | ex y1 e1 S3 => simp only [qg] at h2; exact h2
        | bad => simp only [qg] at h2; exact h2
        | rt d1 S3 => simp only [qg] at h2; exact (show False from h2).elim
        | bk e1 S3 => simp only [qg] at h2; exact (show False from h2).elim
        | ct e1 S3 => simp only [qg] at h2; exact (show False from h2).elim
theorem s_for (hp : PassesOwn (model X.prog X.w) X.A X.env X.xe) (hc : X.calm = true) (hi : PI X tg iter (tSrc k W m)) (hg : PG X tg (tG k W n g)) (hb : PSs X body (tS k W n mb)) (hs : ∀ x, foldedSetIterable iter X.env x = pure x := by intro _; rfl) :
    PS X (.For tg iter body [] pos) (tS k W n (sFor m g mb)) := (ps_for hp hc hi hg hb hs).imp fun _ _ _ h => for_read h
end

/-! ### targets, exactly -/
def TgOk (K : PySem.W.Frag) (t : TG) (b : D → Env → Option Env) (vs : List Nat) : Prop :=
  ∀ (k : Cn) (ρ : Rho) (H : Hp) (v : V) (d : D) (e e' : Env) (σ : L2.St) (Q : L2.St → Hp → Prop), k.K = K → Rep k ρ H d v → SRep k ρ H e σ → b d e = some e' →
    (∀ σ', SRep k ρ H e' σ' → σ'.length = σ.length → (∀ j : Nat, j ∉ vs → σ'[j]? = σ[j]?) → Q σ' H) → t v σ H Q
def TgsOk (K : PySem.W.Frag) (t : TGs) (b : List D → Env → Option Env) (vs : List Nat) : Prop :=
  ∀ (k : Cn) (ρ : Rho) (H : Hp) (v : List V) (d : List D) (e e' : Env) (σ : L2.St) (Q : L2.St → Hp → Prop), k.K = K → Reps k ρ H d v → SRep k ρ H e σ → b d e = some e' →
    (∀ σ', SRep k ρ H e' σ' → σ'.length = σ.length → (∀ j : Nat, j ∉ vs → σ'[j]? = σ[j]?) → Q σ' H) → t v σ H Q
@[reducible] def bVar (i : Nat) : D → Env → Option Env := fun d e => some (e.set i (some d))
@[reducible] def bTup (n : Nat) (b : List D → Env → Option Env) : D → Env → Option Env := fun d e => match d with
  | .tup ds => if ds.length = n then b ds e else none
  | _ => none
@[reducible] def bNone : List D → Env → Option Env := fun ds e => match ds with
  | [] => some e
  | _ => none
@[reducible] def bMore (b : D → Env → Option Env) (r : List D → Env → Option Env) : List D → Env → Option Env := fun ds e => match ds with
  | d :: ds => (b d e).bind (r ds)
  | [] => none
theorem tg_var {K : PySem.W.Frag} (i : Nat) : TgOk K (gName i) (bVar i) [i] := fun k ρ H v d e e' σ Q hK r sr h q => by
  cases h
  exact q _ (sr.set i r) (by simp) fun j hj => by rw [List.getElem?_set_ne]; intro z; exact hj (by simp [z])
theorem tgs_nil {K : PySem.W.Frag} : TgsOk K gNil bNone [] := fun k ρ H v d e e' σ Q hK r sr h q => by
  cases r with
  | nil => cases h; exact ⟨rfl, q _ sr rfl fun _ _ => rfl⟩
  | cons _ _ => cases h
theorem tgs_cons {K : PySem.W.Frag} {t : TG} {u : TGs} {b : D → Env → Option Env} {r : List D → Env → Option Env} {vs ws : List Nat} (h1 : TgOk K t b vs) (h2 : TgsOk K u r ws) : TgsOk K (gCons t u) (bMore b r) (vs ++ ws) := fun k ρ H v d e e' σ Q hK rr sr h q => by
  cases rr with
  | nil => cases h
  | @cons d v ds vs' r1 r2 =>
    have h' : (b d e).bind (r ds) = some e' := h
    cases qb : b d e with
    | none => rw [qb] at h'; cases h'
    | some e1 =>
      rw [qb] at h'
      refine ⟨v, vs', rfl, h1 k ρ H v d e e1 σ _ hK r1 sr qb fun σ1 sr1 l1 o1 => ?_⟩
      refine h2 k ρ H vs' ds e1 e' σ1 _ hK r2 sr1 h' fun σ2 sr2 l2 o2 => q σ2 sr2 (l2.trans l1) fun j hj => ?_
      rw [o2 j (fun z => hj (List.mem_append_right _ z)), o1 j (fun z => hj (List.mem_append_left _ z))]
theorem tg_tup {K : PySem.W.Frag} {n : Nat} {u : TGs} {r : List D → Env → Option Env} {ws : List Nat} (h : TgsOk K u r ws) : TgOk K (gTup K n u) (bTup n r) ws := fun k ρ H v d e e' σ Q hK rr sr h' q => by
  cases rr with
  | @tup a vs ds hs hr =>
    have h2 : (if ds.length = n then r ds e else none) = some e' := h'
    by_cases hl : ds.length = n
    · rw [if_pos hl] at h2
      exact ⟨a, vs, rfl, by rw [← hK]; exact hs, by rw [← hr.length]; exact hl, h k ρ H vs ds e e' σ Q hK hr sr h2 q⟩
    · rw [if_neg hl] at h2; cases h2
  | _ => cases h'
@[reducible] def gB (b : D → Env → Option Env) : D → SM := fun d e S => match b d e with
  | some e' => .nx e' S
  | none => .bad
theorem g_of {X : Cx} {k : Cn} {W : WX} {n : Nat} {tg : Expr} {t : TG} {b : D → Env → Option Env} {vs : List Nat} (h : PG X tg t) (ht : TgOk X.K t b vs) (hK : k.K = X.K := by rfl) : PG X tg (tG k W n (gB b)) := h.imp fun v σ H Q ⟨ρ, S, e, d, hn, sim, sr, r, h⟩ => by
  unfold gB at h
  split at h
  · rename_i e' q
    exact ht k ρ H v d e e' σ Q hK r sr q fun σ' sr' _ _ => h σ' H ρ Ext.refl sim sr'
  · exact h.elim

/-! ### comprehensions -/
@[reducible] def wipeE (e : Env) : List Nat → Env
  | [] => e
  | v :: vs => (wipeE e vs).set v none
theorem SRep.wipe {k : Cn} {ρ : Rho} {H : Hp} {e : Env} {σ : L2.St} (sr : SRep k ρ H e σ) : ∀ vs : List Nat, SRep k ρ H (wipeE e vs) (wipe σ vs)
  | [] => sr
  | v :: vs => by
    have ih := SRep.wipe sr vs
    refine ⟨by simp [wipeE, L2.wipe, ih.1], fun i d q => ?_⟩
    by_cases h : i = v
    · subst h
      simp only [wipeE] at q
      by_cases hl : i < (wipeE e vs).length
      · rw [List.getElem?_set_self hl] at q; cases q
      · rw [List.getElem?_eq_none (by simpa using hl)] at q; cases q
    · simp only [wipeE] at q
      rw [List.getElem?_set_ne (Ne.symm h)] at q
      obtain ⟨w, q1, q2⟩ := ih.2 i d q
      exact ⟨w, by simp only [L2.wipe]; rw [List.getElem?_set_ne (Ne.symm h)]; exact q1, q2⟩
theorem wipe_eq {σ σ' : L2.St} (hl : σ'.length = σ.length) : ∀ vs : List Nat, (∀ j : Nat, j ∉ vs → σ'[j]? = (wipe σ vs)[j]?) → wipe σ' vs = wipe σ vs := fun vs h => by
  apply List.ext_getElem?
  intro j
  by_cases hj : j ∈ vs
  · have aux : ∀ (τ : L2.St) (vs : List Nat), j ∈ vs → j < τ.length → (wipe τ vs)[j]? = some none := fun τ vs => by
      induction vs with
      | nil => intro z; cases z
      | cons v vs ih =>
        intro z hlt
        simp only [L2.wipe]
        by_cases e : j = v
        · subst e
          rw [List.getElem?_set_self (by rw [wipe_length]; exact hlt)]
        · rw [List.getElem?_set_ne (Ne.symm e)]
          exact ih (by rcases List.mem_cons.mp z with q | q; exact absurd q e; exact q) hlt
    by_cases hlt : j < σ.length
    · rw [aux σ vs hj hlt, aux σ' vs hj (by rw [hl]; exact hlt)]
    · rw [List.getElem?_eq_none (by rw [wipe_length]; omega), List.getElem?_eq_none (by rw [wipe_length]; omega)]
  · have aux : ∀ (τ : L2.St) (ws : List Nat), j ∉ ws → (wipe τ ws)[j]? = τ[j]? := fun τ ws => by
      induction ws with
      | nil => intro _; rfl
      | cons v ws ih =>
        intro z
        simp only [L2.wipe]
        rw [List.getElem?_set_ne (fun e => z (by simp [e])), ih (fun q => z (List.mem_cons_of_mem _ q))]
    rw [aux σ' vs hj]
    exact h j hj
def lcF (b : D → Env → Option Env) (t : EM Bool) (el : EM D) (e : Env) : Nat → Src → Nat → Sto → Res (List D)
  | 0, _, _, _ => .bad
  | f + 1, src, i, S => match item S i src with
    | none => .bad
    | some none => .ok [] S
    | some (some d) => match b d e with
      | none => .bad
      | some e1 => match t e1 S with
        | .ok true S2 => match el e1 S2 with
          | .ok y S3 => match lcF b t el e f src (i + 1) S3 with
            | .ok ys S4 => .ok (y :: ys) S4
            | _ => .bad
          | _ => .bad
        | .ok false S2 => lcF b t el e f src (i + 1) S2
        | _ => .bad
def lcL (b : D → Env → Option Env) (t : EM Bool) (el : EM D) (e : Env) : List D → Sto → Res (List D)
  | [], S => .ok [] S
  | d :: ds, S => match b d e with
    | none => .bad
    | some e1 => match t e1 S with
      | .ok true S2 => match el e1 S2 with
        | .ok y S3 => match lcL b t el e ds S3 with
          | .ok ys S4 => .ok (y :: ys) S4
          | _ => .bad
        | _ => .bad
      | .ok false S2 => lcL b t el e ds S2
      | _ => .bad
theorem lcF_st (b : D → Env → Option Env) (t : EM Bool) (el : EM D) (e : Env) (all : List D) : ∀ (ds : List D) (i f : Nat) (S : Sto), all.drop i = ds → ds.length < f → lcF b t el e f (.st all) i S = lcL b t el e ds S
  | [], i, f + 1, S, hd, _ => by
    have h : all[i]? = none := by
      rw [List.getElem?_eq_none_iff]; have := congrArg List.length hd; simp at this; omega
    simp only [lcF, item, h, lcL]
  | d :: ds, i, f + 1, S, hd, hf => by
    have h : all[i]? = some d := by rw [← List.head?_drop, hd]; rfl
    have hd' : all.drop (i + 1) = ds := by rw [← List.tail_drop, hd]; rfl
    have ih : ∀ S, lcF b t el e f (.st all) (i + 1) S = lcL b t el e ds S := fun S => lcF_st b t el e all ds (i + 1) f S hd' (by simp at hf; omega)
    simp only [lcF, item, h, lcL, ih]
@[reducible] def eLc (own : List Nat) (m : EM Src) (b : D → Env → Option Env) (t : EM Bool) (el : EM D) : EM D := bindE m fun src => fun e S => if fuelOf src ≤ 200000 then (match lcF b t el (wipeE e own) (fuelOf src) src 0 S with
  | .ok ys S' => .ok (.lst ys) S'
  | _ => .bad) else .bad
@[reducible] def bYes : EM Bool := fun _ S => .ok true S
/-! ### a thing under construction -/
def Rho.hole (ρ : Rho) (a : Addr) : Rho := ⟨ρ.t, a :: ρ.h⟩
/-- from ahead of a construction at a to within it -/
structure ExtD (a : Addr) (ρ ρ' : Rho) (H H' : Hp) : Prop where
  e : Ext0 ρ.length ρ ρ' H H'
  len : ρ.length ≤ ρ'.length
  hol : ρ'.h = a :: ρ.h
  hk : ∀ b ∈ ρ.h, H' b = H b
section
variable {k : Cn} {ρ ρ1 ρ' : Rho} {S S1 S' : Sto} {H H1 H' : Hp} {p : Addr} {u : HO}
theorem ExtD.start (m : Sim k ρ S H) (hp : H p = none) (hu : Raw u) : ExtD p ρ (ρ.hole p) H (upd H p u) ∧ Sim k (ρ.hole p) S (upd H p u) := by
  have x : Ext0 ρ.length ρ (ρ.hole p) H (upd H p u) := ⟨fun l a hl e => e, fun a o e _ => same_new hp a o e, fun a o w e => same_new hp a _ e, fun a ha => by
    rcases ha with ha | ha
    · exact .inl (.inl ha)
    · rcases List.mem_cons.mp ha with z | z
      · rw [z]; exact .inr hp
      · exact .inl (.inr z)⟩
  have kp : ∀ b ∈ ρ.h, upd H p u b = H b := fun b hb => by
    obtain ⟨_, w, e, _⟩ := m.raw b hb
    rw [e, same_new hp _ _ e]
  refine ⟨⟨x, Nat.le_refl _, rfl, kp⟩, ⟨m.len, fun a ha => ?_, m.inj, m.ob, fun l a o e1 e2 => ?_⟩⟩
  · rcases List.mem_cons.mp ha with z | z
    · subst z
      exact ⟨fun q => m.fresh hp (.inl q), u, upd_same, hu⟩
    · obtain ⟨h1, w, h2, h3⟩ := m.raw a z
      exact ⟨h1, w, same_new hp _ _ h2, h3⟩
  · have q := m.at_ l a o e1 e2
    obtain ⟨w, hw⟩ := q.some_
    exact q.ext0 m x (by rw [hw, same_new hp _ _ hw])
theorem ExtD.more (x : ExtD p ρ ρ1 H H1) (y : Ext ρ1.length ρ1 ρ' H1 H') : ExtD p ρ ρ' H H' := by
  have len := x.len
  refine ⟨⟨fun l a hl e => y.old l a (by have := x.len; simp only [Rho.length] at *; omega) (x.e.old l a hl e), fun a o e n => y.keep a o (x.e.keep a o e n) (x.e.out e n), fun a o w e => y.fz a o w (x.e.fz a o w e), fun a ha => (y.new a ha).elim (x.e.new a) fun z => ?_⟩, Nat.le_trans x.len y.len, y.hol.trans x.hol, fun b hb => ?_⟩
  · by_cases hr : Live ρ a
    · exact .inl hr
    · refine .inr ?_
      cases q : H a with
      | none => rfl
      | some o => rw [x.e.keep a o q hr] at z; cases z
  · rw [y.hk b (by rw [x.hol]; exact List.mem_cons_of_mem _ hb), x.hk b hb]
theorem hole_write (m : Sim k ρ S H) (hp : p ∈ ρ.h) (hu : Raw u) : Ext0 ρ.length ρ ρ H (upd H p u) ∧ Sim k ρ S (upd H p u) := by
  have np := (m.raw p hp).1
  have x : Ext0 ρ.length ρ ρ H (upd H p u) := ⟨fun _ _ _ h => h, fun a o e n => by rw [upd_ne (fun z => n (by rw [z]; exact .inr hp))]; exact e, fun a o w e => by
    rw [upd_ne]; exact e
    rintro rfl
    obtain ⟨_, v, hv, rv⟩ := m.raw a hp
    rw [hv] at e
    rcases rv with ⟨_, rfl⟩ | ⟨_, rfl⟩ <;> (cases e), fun _ h => .inl h⟩
  refine ⟨x, ⟨m.len, fun a ha => ?_, m.inj, m.ob, fun l a o e1 e2 => ?_⟩⟩
  · by_cases hz : a = p
    · subst hz; exact ⟨np, u, upd_same, hu⟩
    · rw [upd_ne hz]; exact m.raw a ha
  · refine (m.at_ l a o e1 e2).ext0 m x ?_
    rw [upd_ne]
    exact fun z => np (mem_rho.mpr ⟨l, by rw [← z]; exact e1⟩)
theorem ExtD.write (x : ExtD p ρ ρ' H H') (m0 : Sim k ρ S H) (hp : H p = none) : ExtD p ρ ρ' H (upd H' p u) := by
  refine ⟨⟨x.e.old, fun a o e n => by rw [upd_ne (ne_of_none e hp)]; exact x.e.keep a o e n, fun a o w e => by rw [upd_ne (ne_of_none e hp)]; exact x.e.fz a o w e, x.e.new⟩, x.len, x.hol, fun b hb => ?_⟩
  obtain ⟨_, w, e, _⟩ := m0.raw b hb
  rw [upd_ne (ne_of_none e hp)]
  exact x.hk b hb
/-- the construction is over -/
theorem ExtD.done (x : ExtD p ρ ρ' H H') (m : Sim k ρ' S' H') (hp : H p = none) : Ext ρ.length ρ ⟨ρ'.t, ρ.h⟩ H H' ∧ Sim k ⟨ρ'.t, ρ.h⟩ S' H' ∧ Ext0 ρ'.length ρ' ⟨ρ'.t, ρ.h⟩ H' H' ∧ ¬ Live ⟨ρ'.t, ρ.h⟩ p ∨ p ∈ ρ.h := by
  by_cases hh : p ∈ ρ.h
  · exact .inr hh
  · refine .inl ?_
    have z : Ext0 ρ'.length ρ' ⟨ρ'.t, ρ.h⟩ H' H' := ⟨fun _ _ _ h => h, fun _ _ h _ => h, fun _ _ _ h => h, fun a ha => .inl (by
      rcases ha with ha | ha
      · exact .inl ha
      · exact .inr (by rw [x.hol]; exact List.mem_cons_of_mem _ ha))⟩
    refine ⟨⟨x.e.old, x.len, x.e.keep, x.e.fz, fun a ha => x.e.new a ?_, rfl, x.hk⟩, ⟨m.len, fun a ha => ?_, m.inj, m.ob, fun l a o e1 e2 => (m.at_ l a o e1 e2).ext0 m z rfl⟩, z, fun q => ?_⟩
    · rcases ha with ha | ha
      · exact .inl ha
      · exact .inr (by rw [x.hol]; exact List.mem_cons_of_mem _ ha)
    · exact m.raw a (by rw [x.hol]; exact List.mem_cons_of_mem _ ha)
    · rcases q with q | q
      · exact (m.raw p (by rw [x.hol]; exact List.mem_cons_self)).1 q
      · exact hh q
end
section
variable {X : Cx} {k : Cn} {W : WX} {tg iter elt : Expr} {ifs : List Expr} {scope : Scope} {pos : Pos} {m : EM Src} {b : D → Env → Option Env} {t : EM Bool} {el : EM D} {ga : TG}
theorem lc_turns {own ws : List Nat} {σ : L2.St} {H1 : Hp} {Q : VK} {J : It} {src : Src} {ρ1 : Rho} {S1 : Sto} {e : Env} {C : Addr} {all : List D} {Sz : Sto} (hg : TgOk k.K ga b ws) (hw : ∀ j ∈ ws, j ∈ own) (sim1 : Sim k ρ1 S1 H1) (sr1 : SRep k ρ1 H1 e σ) (yl : Yld k ρ1 H1 src J) (hD : H1 C = none) (hf : fuelOf src ≤ 200000)
    (hall : lcF b t el (wipeE e own) (fuelOf src) src 0 S1 = .ok all Sz)
    (fin : ∀ ρ' H' vs, ExtD C ρ1 ρ' H1 H' → Sim k ρ' Sz H' → H' C = some (.lst vs) → Reps k ρ' H' all vs → Q (.ref C) H') :
    ∃ W : Nat → Nat → Hp → Prop, (∃ m, W 0 m (upd H1 C (.lst []))) ∧ ∀ i m H, W i m H →
      (J.stop i H ∧ Q (.ref C) H) ∨ (J.go i H ∧ ∃ Nx : Hp → Prop, (∀ H', Nx H' → ∃ m', m' < m ∧ W (i + 1) m' H') ∧ ∀ x H', J.yld i H x H' → ga x (wipe σ own) H' fun σ2 H2 => wipe σ2 own = wipe σ own ∧ tT k (fun _ _ _ _ => False) t σ2 H2 fun bb H3 =>
        if bb = true then tI k (fun _ _ _ _ => False) el σ2 H3 fun y H4 => ∃ acc, H4 C = some (.lst acc) ∧ acc.length < sizeLine ∧ Nx (upd H4 C (.lst (acc ++ [y]))) else Nx H3) := by
  refine ⟨fun i mm H' => ∃ ρ' S' don acc ys, i + mm = fuelOf src ∧ don.length ≤ i ∧ ExtD C ρ1 ρ' H1 H' ∧ Sim k ρ' S' H' ∧ H' C = some (.lst acc) ∧ Reps k ρ' H' don acc ∧
      lcF b t el (wipeE e own) mm src i S' = .ok ys Sz ∧ all = don ++ ys, ?_, ?_⟩
  · obtain ⟨x, m⟩ := ExtD.start (u := .lst []) sim1 hD (.inl ⟨_, rfl⟩)
    exact ⟨fuelOf src, ρ1.hole C, S1, [], [], all, by simp, Nat.zero_le _, x, m, upd_same, .nil, hall, rfl⟩
  · rintro i mm H' ⟨ρ', S', don, acc, ys, hi, hl, x', sim', hD', rs, h', ha⟩
    cases mm with
    | zero => cases h'
    | succ f =>
      rw [lcF] at h'
      cases q : item S' i src with
      | none => simp only [q] at h'; cases h'
      | some o =>
        simp only [q] at h'
        cases o with
        | none =>
          cases h'
          rw [List.append_nil] at ha
          subst ha
          exact .inl ⟨yl.stop ρ' _ H' i x'.e sim' q, fin ρ' H' acc x' sim' hD' rs⟩
        | some d =>
          refine .inr ⟨yl.go ρ' S' H' i d x'.e sim' q, _, fun H2 w => ⟨f, Nat.lt_succ_self _, w⟩, fun x H2 y => ?_⟩
          obtain ⟨sa, rx⟩ := yl.yld ρ' S' H' i d x H2 x'.e sim' q y
          have xs : Ext ρ'.length ρ' ρ' H' H2 := Ext.same sim' sa
          have sim2 := sim'.same sa
          cases qb : b d (wipeE e own) with
          | none => simp only [qb] at h'; cases h'
          | some e1 =>
            simp only [qb] at h'
            have sr2 : SRep k ρ' H2 e σ := (sr1.ext0 sim1 x'.e).ext sim' xs
            refine hg k ρ' H2 x d _ e1 _ _ rfl rx (sr2.wipe own) qb fun σ2 srt l2 o2 => ⟨?_, ?_⟩
            · exact wipe_eq (l2.trans (wipe_length _ _)) own fun j hj => o2 j fun z => hj (hw j z)
            · refine ⟨ρ', S', e1, sim2, srt, ?_⟩
              cases qt : t e1 S' with
              | bad => simp only [qt] at h'; cases h'
              | ex y1 S3 => simp only [qt] at h'; cases h'
              | ok bb S3 =>
                intro b2 H3 ρ3 x3 sim3 eb
                obtain rfl : bb = b2 := eb
                have hC : C ∈ ρ'.h := by rw [x'.hol]; exact List.mem_cons_self
                have hD3 : H3 C = some (.lst acc) := by rw [x3.hk C hC]; exact sa C _ hD'
                have xx : ExtD C ρ1 ρ3 H1 H3 := (x'.more xs).more x3
                have rs3 : Reps k ρ3 H3 don acc := (rs.ext sim' xs).ext sim2 x3
                cases bb with
                | false =>
                  simp only [qt] at h'
                  rw [if_neg Bool.false_ne_true]
                  exact ⟨ρ3, S3, don, acc, ys, by omega, by omega, xx, sim3, hD3, rs3, h', ha⟩
                | true =>
                  simp only [qt] at h'
                  rw [if_pos rfl]
                  refine ⟨ρ3, S3, e1, sim3, srt.ext sim2 x3, ?_⟩
                  cases ql : el e1 S3 with
                  | bad => simp only [ql] at h'; cases h'
                  | ex y1 S4 => simp only [ql] at h'; cases h'
                  | ok yv S4 =>
                    simp only [ql] at h'
                    intro y4 H4 ρ4 x4 sim4 ry
                    have hC3 : C ∈ ρ3.h := by rw [xx.hol]; exact List.mem_cons_self
                    have hD4 : H4 C = some (.lst acc) := by rw [x4.hk C hC3]; exact hD3
                    have x5 : ExtD C ρ1 ρ4 H1 H4 := xx.more x4
                    have hC4 : C ∈ ρ4.h := by rw [x5.hol]; exact List.mem_cons_self
                    have rs4 : Reps k ρ4 H4 don acc := rs3.ext sim3 x4
                    refine ⟨acc, hD4, ?_, ?_⟩
                    · rw [← rs4.length]
                      exact Nat.lt_of_lt_of_le (show don.length < 200001 by omega) (by decide)
                    · obtain ⟨xw, simw⟩ := hole_write (u := .lst (acc ++ [y4])) sim4 hC4 (.inl ⟨_, rfl⟩)
                      cases qr : lcF b t el (wipeE e own) f src (i + 1) S4 with
                      | bad => simp only [qr] at h'; cases h'
                      | ex y1 S5 => simp only [qr] at h'; cases h'
                      | ok ys' S5 =>
                        simp only [qr] at h'
                        cases h'
                        exact ⟨ρ4, S4, don ++ [yv], acc ++ [y4], ys', by omega, by simp; omega, x5.write sim1 hD, simw, upd_same, (rs4.ext0 sim4 xw).append (.cons (Rep.ext0 sim4 xw ry) .nil), qr, by rw [ha, List.append_assoc]; rfl⟩
theorem lc_read {own ws : List Nat} {σ : L2.St} {H : Hp} {Q : VK} (hg : TgOk k.K ga b ws) (hw : ∀ j ∈ ws, j ∈ own) (h : tI k W (eLc own m b t el) σ H Q) : tLc (tSrc k W m) ga (tT k (fun _ _ _ _ => False) t) (tI k (fun _ _ _ _ => False) el) own σ H Q := by
  obtain ⟨ρ, S, e, sim, sr, h⟩ := h
  refine At.bind sim sr h fun J src ρ1 S1 H1 x1 sim1 sr1 yl h1 => ?_
  intro C hD
  by_cases hf : fuelOf src ≤ 200000
  · rw [if_pos hf] at h1
    cases hall : lcF b t el (wipeE e own) (fuelOf src) src 0 S1 with
    | bad => rw [hall] at h1; exact (show False from h1).elim
    | ex y S2 => rw [hall] at h1; exact (show False from h1).elim
    | ok all Sz =>
      rw [hall] at h1
      refine lc_turns hg hw sim1 sr1 yl hD hf hall fun ρ' H' vs x m hv rs => ?_
      rcases x.done m hD with ⟨x2, m2, z, nl⟩ | hh
      · exact h1 _ H' _ x2 m2 (.lst hv nl (rs.ext0 m z))
      · obtain ⟨_, w, hw', _⟩ := sim1.raw C hh
        rw [hD] at hw'; cases hw'
  · rw [if_neg hf] at h1; exact h1.elim
theorem c_lc {own : List (Str × Nat)} {ws : List Nat} (hc : X.calm = true) (hN : X.N.Nodup) (hi : PI X tg iter (tSrc k W m)) (ok : BlkOk X.N X.env.scope scope own)
    (hg : ∀ (s : Shared) (H : Hp) (C : Addr) (cl : List (Str × Addr)) (fp : List Addr), PG (X.blk s H scope (compEnvC scope cl C X.env) fp) tg ga) (htg : TgOk k.K ga b ws)
    (ht : ∀ (s : Shared) (H : Hp) (C : Addr) (cl : List (Str × Addr)) (fp : List Addr), PTs (X.blk s H scope (compEnvC scope cl C X.env) fp) ifs (tT k (fun _ _ _ _ => False) t))
    (he : ∀ (s : Shared) (H : Hp) (C : Addr) (cl : List (Str × Addr)) (fp : List Addr), PE (X.blk s H scope (compEnvC scope cl C X.env) fp) elt (tI k (fun _ _ _ _ => False) el))
    (hw : ∀ j ∈ ws, j ∈ own.map (·.2) := by decide) (hs : ∀ x, foldedSetIterable iter X.env x = pure x := by intro _; rfl) :
    PE X (.ListComp elt [⟨tg, iter, ifs, 0⟩] scope pos) (tI k W (eLc (own.map (·.2)) m b t el)) := (pe_lc hc hN hi ok hg ht he hs).imp fun _ _ _ h => lc_read htg hw h
theorem s_setLc {n i : Nat} {y : Str} {py spos : Pos} {own : List (Str × Nat)} {ws : List Nat} (hc : X.calm = true) (hN : X.N.Nodup) (hsw : swapsWith (.ListComp elt [⟨tg, iter, ifs, 0⟩] scope pos) (some (.Name y py)) spos.line X.env = pure true)
    (hi : PI X tg iter (tSrc k W m)) (ok : BlkOk X.N X.env.scope scope own)
    (hg : ∀ (s : Shared) (H : Hp) (C : Addr) (cl : List (Str × Addr)) (fp : List Addr), PG (X.blk s H scope (compEnvC scope cl C X.env) fp) tg ga) (htg : TgOk k.K ga b ws)
    (ht : ∀ (s : Shared) (H : Hp) (C : Addr) (cl : List (Str × Addr)) (fp : List Addr), PTs (X.blk s H scope (compEnvC scope cl C X.env) fp) ifs (tT k (fun _ _ _ _ => False) t))
    (he : ∀ (s : Shared) (H : Hp) (C : Addr) (cl : List (Str × Addr)) (fp : List Addr), PE (X.blk s H scope (compEnvC scope cl C X.env) fp) elt (tI k (fun _ _ _ _ => False) el))
    (hy : X.N[i]? = some y := by rfl) (hyl : X.env.scope.names.lookup y = some .local := by rfl) (hw : ∀ j ∈ ws, j ∈ own.map (·.2) := by decide) (hs : ∀ x, foldedSetIterable iter X.env x = pure x := by intro _; rfl) :
    PS X (.Assign [.Name y py] (.ListComp elt [⟨tg, iter, ifs, 0⟩] scope pos) spos) (tS k W n (sAsg (eLc (own.map (·.2)) m b t el) (gVar i))) :=
  (ps_setLc hc hN hy hyl hsw hi ok hg ht he hs).imp fun E σ H ⟨ρ, S, e, hn, sim, sr, h⟩ => by
    have q : tI k W (eLc (own.map (·.2)) m b t el) σ H (fun x H1 => gName i x σ H1 E.nx) := by
      refine AtS.bind hn sim sr h fun v d ρ1 S1 H1 hn1 x1 sim1 sr1 r1 h1 => ?_
      exact h1 _ H1 ρ1 Ext.refl sim1 (sr1.set i r1)
    exact lc_read htg hw q
end
end Sh
set_option Elab.async false
set_option linter.all false
set_option maxRecDepth 100000
set_option maxHeartbeats 4000000
namespace Sh
open PySem L2

/-! ### numbers, texts, lists: the operators -/
@[reducible] def cap : Nat := 100000
theorem cap_le {n : Nat} (h : n ≤ cap) : n ≤ sizeLine := Nat.le_trans h (by decide)
def gAdd : D → D → Option D
  | .int i, .int j => some (.int (i + j))
  | .str a, .str b => if a.length + b.length ≤ cap then some (.str (a ++ b)) else none
  | .lst a, .lst b => if a.length + b.length ≤ cap then some (.lst (a ++ b)) else none
  | .tup a, .tup b => if a.length + b.length ≤ cap then some (.tup (a ++ b)) else none
  | _, _ => none
def gSub : D → D → Option D
  | .int i, .int j => some (.int (i - j))
  | _, _ => none
def gMul : D → D → Option D
  | .int i, .int j => if i.natAbs < 18446744073709551616 then some (.int (i * j)) else none
  | .lst a, .int j => if j.natAbs < 100000000 ∧ a.length * j.toNat ≤ cap then some (.lst (List.replicate j.toNat a).flatten) else none
  | .tup a, .int j => if a ≠ [] ∧ 2 ≤ j ∧ j ≤ 1000 ∧ a.length ≤ 1000 then some (.tup (List.replicate j.toNat a).flatten) else none
  | _, _ => none
def gMod : D → D → Option D
  | .int i, .int j => if 0 < j then some (.int (i % j)) else none
  | _, _ => none
def gDiv : D → D → Option D
  | .int i, .int j => if 0 < j ∧ j < 1073741824 then some (.int (i / j)) else none
  | _, _ => none
def gPow : D → D → Option D
  | .int i, .int j => if 0 ≤ j ∧ j ≤ 1000000 ∧ i.natAbs < 2 ^ 64 then some (.int (i ^ j.toNat)) else none
  | _, _ => none
section
variable {X : Cx} {k : Cn}
theorem o_add (hK : k.K = X.K := by rfl) : OpM k X (binaryOp .Add) gAdd := by
  intro ρ S dx dy d hg pins s σ H x y v u Q I rx ry m r1 r2 q
  unfold gAdd at hg
  split at hg
  · cases hg
    exact op_add pins s σ H x y v u Q I rx ry ⟨_, _, r1.int_, r2.int_, q _ H (Same.refl _) (.int _)⟩
  · split at hg
    · rename_i hl; cases hg
      exact op_add_str pins s σ H x y v u Q I rx ry ⟨_, _, r1.str_, r2.str_, cap_le hl, q _ H (Same.refl _) (.str _)⟩
    · cases hg
  · split at hg
    · rename_i hl; cases hg
      obtain ⟨a, vs, rfl, e1, p1⟩ := r1.lst_
      obtain ⟨b, ws, rfl, e2, p2⟩ := r2.lst_
      exact op_cat pins s σ H _ _ v u Q I rx ry ⟨a, b, vs, ws, rfl, rfl, e1, e2, cap_le (by rw [← p1.length, ← p2.length]; exact hl), fun p hp => q _ _ (same_new hp) (Rep.newL m hp (p1.append p2))⟩
    · cases hg
  · split at hg
    · rename_i hl; cases hg
      obtain ⟨a, vs, rfl, e1, p1⟩ := r1.tup_
      obtain ⟨b, ws, rfl, e2, p2⟩ := r2.tup_
      refine op_catA pins s σ H _ _ v u Q I rx ry ⟨a, b, vs, ws, rfl, rfl, by rw [← hK]; exact e1, by rw [← hK]; exact e2, cap_le (by rw [← p1.length, ← p2.length]; exact hl), fun z => ?_, fun z z2 => ?_, fun z z2 p hp => q _ _ (same_new hp) (Rep.newT m hp (p1.append p2))⟩
      · subst z; cases p1
        exact q _ H (Same.refl _) (.tup e2 p2)
      · subst z2; cases p2
        exact q _ H (Same.refl _) (by rw [List.append_nil]; exact .tup e1 p1)
    · cases hg
  · cases hg
theorem o_sub : OpM k X (binaryOp .Sub) gSub := by
  intro ρ S dx dy d hg pins s σ H x y v u Q I rx ry m r1 r2 q
  unfold gSub at hg
  split at hg
  · cases hg
    exact op_sub pins s σ H x y v u Q I rx ry ⟨_, _, r1.int_, r2.int_, q _ H (Same.refl _) (.int _)⟩
  · cases hg
theorem o_mul (hK : k.K = X.K := by rfl) : OpM k X (binaryOp .Mult) gMul := by
  intro ρ S dx dy d hg pins s σ H x y v u Q I rx ry m r1 r2 q
  unfold gMul at hg
  split at hg
  · split at hg
    · rename_i hl; cases hg
      exact op_mul pins s σ H x y v u Q I rx ry ⟨_, _, r1.int_, r2.int_, .inl (by omega), q _ H (Same.refl _) (.int _)⟩
    · cases hg
  · split at hg
    · rename_i hl; cases hg
      obtain ⟨a, vs, rfl, e1, p1⟩ := r1.lst_
      refine op_rep pins s σ H _ _ v u Q I rx ry ⟨a, _, vs, rfl, r2.int_, e1, by omega, by omega, cap_le (by rw [← p1.length]; exact hl.2), fun p hp => q _ _ (same_new hp) (Rep.newL m hp (p1.rep _))⟩
    · cases hg
  · split at hg
    · rename_i hl; cases hg
      obtain ⟨a, vs, rfl, e1, p1⟩ := r1.tup_
      refine op_repT pins s σ H _ _ v u Q I rx ry ⟨a, _, vs, rfl, r2.int_, by rw [← hK]; exact e1, fun z => ?_, hl.2.1, hl.2.2.1, by rw [← p1.length]; exact hl.2.2.2, fun p hp => q _ _ (same_new hp) (Rep.newT m hp (p1.rep _))⟩
      subst z; cases p1; exact hl.1 rfl
    · cases hg
  · cases hg
theorem o_mod : OpM k X (binaryOp .Mod) gMod := by
  intro ρ S dx dy d hg pins s σ H x y v u Q I rx ry m r1 r2 q
  unfold gMod at hg
  split at hg
  · split at hg
    · rename_i hl; cases hg
      exact op_mod pins s σ H x y v u Q I rx ry ⟨_, _, r1.int_, r2.int_, hl, q _ H (Same.refl _) (.int _)⟩
    · cases hg
  · cases hg
theorem o_div : OpM k X (binaryOp .FloorDiv) gDiv := by
  intro ρ S dx dy d hg pins s σ H x y v u Q I rx ry m r1 r2 q
  unfold gDiv at hg
  split at hg
  · split at hg
    · rename_i hl; cases hg
      exact op_fdiv pins s σ H x y v u Q I rx ry ⟨_, _, r1.int_, r2.int_, hl, q _ H (Same.refl _) (.int _)⟩
    · cases hg
  · cases hg
theorem o_pow : OpM k X (binaryOp .Pow) gPow := by
  intro ρ S dx dy d hg pins s σ H x y v u Q I rx ry m r1 r2 q
  unfold gPow at hg
  split at hg
  · split at hg
    · rename_i hl; cases hg
      exact op_pow pins s σ H x y v u Q I rx ry ⟨_, _, r1.int_, r2.int_, hl, q _ H (Same.refl _) (.int _)⟩
    · cases hg
  · cases hg
end

/-! ### comparisons -/
mutual
def toPy : D → Option PyData
  | .non => some .none
  | .bl b => some (.bool b)
  | .int i => some (.int i)
  | .str x => some (.str x)
  | .tup xs => (toPys xs).map .tuple
  | .lst xs => (toPys xs).map .list
  | .fls xs => (toPys xs).map .list
  | .ftp xs => (toPys xs).map .tuple
  | _ => none
def toPys : List D → Option (List PyData)
  | [] => some []
  | x :: xs => match toPy x, toPys xs with
    | some a, some b => some (a :: b)
    | _, _ => none
end
mutual
theorem Rep.dp {k : Cn} {ρ : Rho} {H : Hp} : ∀ {d : D} {v : V} {p : PyData}, Rep k ρ H d v → toPy d = some p → Dp k.K H v p
  | _, _, _, .non, h => by simp only [toPy] at h; cases h; exact .non
  | _, _, _, .bl b, h => by simp only [toPy] at h; cases h; exact .bl b
  | _, _, _, .int b, h => by simp only [toPy] at h; cases h; exact .int b
  | _, _, _, .str b, h => by simp only [toPy] at h; cases h; exact .str b
  | _, _, _, .ty n, h => by simp only [toPy] at h; cases h
  | .tup ds, _, _, .tup hs r, h => by
    simp only [toPy] at h
    cases q : toPys ds with
    | none => rw [q] at h; cases h
    | some ps => rw [q] at h; cases h; exact .tup hs (Reps.dp r q)
  | .lst ds, _, _, .lst hs n r, h => by
    simp only [toPy] at h
    cases q : toPys ds with
    | none => rw [q] at h; cases h
    | some ps => rw [q] at h; cases h; exact .lst (SqL.of hs) (Reps.dp r q)
  | .fls ds, _, _, .fls hs r, h => by
    simp only [toPy] at h
    cases q : toPys ds with
    | none => rw [q] at h; cases h
    | some ps => rw [q] at h; cases h; exact .lst hs.sq (Reps.dp r q)
  | .ftp ds, _, _, .ftp hs _ r, h => by
    simp only [toPy] at h
    cases q : toPys ds with
    | none => rw [q] at h; cases h
    | some ps => rw [q] at h; cases h; exact .tup (.inl (.inr ⟨_, hs⟩)) (Reps.dp r q)
  | _, _, _, .dic hs n r, h => by simp only [toPy] at h; cases h
  | _, _, _, .loc hs, h => by simp only [toPy] at h; cases h
  | _, _, _, .rng hs, h => by simp only [toPy] at h; cases h
theorem Reps.dp {k : Cn} {ρ : Rho} {H : Hp} : ∀ {d : List D} {v : List V} {p : List PyData}, Reps k ρ H d v → toPys d = some p → DpAll k.K H v p
  | _, _, _, .nil, h => by simp only [toPys] at h; cases h; exact .nil
  | d :: ds, _, _, .cons r t, h => by
    simp only [toPys] at h
    cases q1 : toPy d with
    | none => simp only [q1] at h; cases h
    | some a =>
      cases q2 : toPys ds with
      | none => simp only [q1, q2] at h; cases h
      | some b => simp only [q1, q2] at h; cases h; exact .cons (Rep.dp r q1) (Reps.dp t q2)
end
theorem RR.dp {k : Cn} {ρ : Rho} {H : Hp} {d : D} {v : V} {p : PyData} (r : RR k ρ H d v) (h : toPy d = some p) : Dp k.K H v p := by
  cases r with
  | st r => exact r.dp h
  | @lst a vs ds e r =>
    simp only [toPy] at h
    cases q : toPys ds with
    | none => rw [q] at h; cases h
    | some ps => rw [q] at h; cases h; exact .lst (SqL.of e) (r.dp q)
  | dic e r => simp only [toPy] at h; cases h
def eqG (neg : Bool) : D → D → Option D
  | .int i, .int j => some (.bl (neg ^^ decide (i = j)))
  | .str a, .str b => some (.bl (neg ^^ decide (a = b)))
  | a, b => match toPy a, toPy b with
    | some p, some q => if SeqAt.shaped p = true ∧ SeqAt.shaped q = true then some (.bl (neg ^^ PyData.eqv p q)) else none
    | _, _ => none
def gEq : D → D → Option D := eqG false
def gNe : D → D → Option D := eqG true
section
variable {X : Cx} {k : Cn}
theorem dV_int (i j : Int) : decide (V.int i = V.int j) = decide (i = j) := by simp
theorem dV_str (i j : Str) : decide (V.str i = V.str j) = decide (i = j) := by simp
theorem o_eq (hu : X.A.units + 64 < cLine) (hK : k.K = X.K := by rfl) : OpM k X (compareOp .Eq) gEq := by
  intro ρ S dx dy d hg pins s σ H x y v u Q I rx ry m r1 r2 q
  unfold gEq eqG at hg
  split at hg
  · cases hg
    have e1 := r1.int_; have e2 := r2.int_; subst e1 e2
    exact op_eq pins s σ H _ _ v u Q I rx ry ⟨rfl, q _ H (Same.refl _) (by rw [Bool.false_xor, dV_int]; exact .bl _)⟩
  · cases hg
    have e1 := r1.str_; have e2 := r2.str_; subst e1 e2
    exact op_eq pins s σ H _ _ v u Q I rx ry ⟨rfl, q _ H (Same.refl _) (by rw [Bool.false_xor, dV_str]; exact .bl _)⟩
  · split at hg
    · rename_i p1 p2 e1 e2
      split at hg
      · rename_i hs; cases hg
        exact op_eqD hu pins s σ H x y v u Q I rx ry ⟨p1, p2, by rw [← hK]; exact r1.dp e1, by rw [← hK]; exact r2.dp e2, hs.1, hs.2, q _ H (Same.refl _) (by rw [Bool.false_xor]; exact .bl _)⟩
      · cases hg
    · cases hg
theorem o_ne (hu : X.A.units + 64 < cLine) (hK : k.K = X.K := by rfl) : OpM k X (compareOp .NotEq) gNe := by
  intro ρ S dx dy d hg pins s σ H x y v u Q I rx ry m r1 r2 q
  unfold gNe eqG at hg
  split at hg
  · cases hg
    have e1 := r1.int_; have e2 := r2.int_; subst e1 e2
    exact op_ne pins s σ H _ _ v u Q I rx ry ⟨rfl, q _ H (Same.refl _) (by rw [Bool.true_xor, dV_int]; exact .bl _)⟩
  · cases hg
    have e1 := r1.str_; have e2 := r2.str_; subst e1 e2
    exact op_ne pins s σ H _ _ v u Q I rx ry ⟨rfl, q _ H (Same.refl _) (by rw [Bool.true_xor, dV_str]; exact .bl _)⟩
  · split at hg
    · rename_i p1 p2 e1 e2
      split at hg
      · rename_i hs; cases hg
        exact op_neD hu pins s σ H x y v u Q I rx ry ⟨p1, p2, by rw [← hK]; exact r1.dp e1, by rw [← hK]; exact r2.dp e2, hs.1, hs.2, q _ H (Same.refl _) (by rw [Bool.true_xor]; exact .bl _)⟩
      · cases hg
    · cases hg
end
def gCmp (p : Int → Int → Bool) : D → D → Option D
  | .int i, .int j => some (.bl (p i j))
  | _, _ => none
def gLt : D → D → Option D := gCmp fun i j => decide (i < j)
def gLe : D → D → Option D := gCmp fun i j => decide (i ≤ j)
def gGt : D → D → Option D := gCmp fun i j => decide (j < i)
def gGe : D → D → Option D := gCmp fun i j => decide (j ≤ i)
section
variable {X : Cx} {k : Cn}
theorem o_cmp {f : Value → Value → Sem Value} {p : Int → Int → Bool} (h : OpR X f (rI0 fun i j => .bl (p i j))) : OpM k X f (gCmp p) := by
  intro ρ S dx dy d hg pins s σ H x y v u Q I rx ry m r1 r2 q
  unfold gCmp at hg
  split at hg
  · cases hg
    exact h pins s σ H x y v u Q I rx ry ⟨_, _, r1.int_, r2.int_, q _ H (Same.refl _) (.bl _)⟩
  · cases hg
theorem o_lt : OpM k X (compareOp .Lt) gLt := o_cmp op_lt
theorem o_le : OpM k X (compareOp .LtE) gLe := o_cmp op_le
theorem o_gt : OpM k X (compareOp .Gt) gGt := o_cmp op_gt
theorem o_ge : OpM k X (compareOp .GtE) gGe := o_cmp op_ge
end
@[reducible] def isN : D → Bool
  | .non => true
  | _ => false
def isG (neg : Bool) : D → D → Option D
  | .bl a, .bl b => some (.bl (neg ^^ decide (a = b)))
  | x, .non => some (.bl (neg ^^ isN x))
  | _, _ => none
def gIs : D → D → Option D := isG false
def gIsNot : D → D → Option D := isG true
theorem RR.isN {k : Cn} {ρ : Rho} {H : Hp} {d : D} {v : V} (r : RR k ρ H d v) : decide (v = .non) = isN d := by
  cases r with
  | st r => cases r <;> rfl
  | lst _ _ => rfl
  | dic _ _ => rfl
section
variable {X : Cx} {k : Cn}
theorem o_is : OpM k X (compareOp .Is) gIs := by
  intro ρ S dx dy d hg pins s σ H x y v u Q I rx ry m r1 r2 q
  unfold gIs isG at hg
  split at hg
  · cases hg
    exact op_isBl pins s σ H x y v u Q I rx ry ⟨_, _, r1.bl_, r2.bl_, q _ H (Same.refl _) (by rw [Bool.false_xor]; exact .bl _)⟩
  · cases hg
    exact op_isN pins s σ H x y v u Q I rx ry ⟨r2.non_, q _ H (Same.refl _) (by rw [Bool.false_xor, r1.isN]; exact .bl _)⟩
  · cases hg
theorem o_isNot : OpM k X (compareOp .IsNot) gIsNot := by
  intro ρ S dx dy d hg pins s σ H x y v u Q I rx ry m r1 r2 q
  unfold gIsNot isG at hg
  split at hg
  · cases hg
    exact op_notBl pins s σ H x y v u Q I rx ry ⟨_, _, r1.bl_, r2.bl_, q _ H (Same.refl _) (by rw [Bool.true_xor]; exact .bl _)⟩
  · cases hg
    exact op_notN pins s σ H x y v u Q I rx ry ⟨r2.non_, q _ H (Same.refl _) (by rw [Bool.true_xor, r1.isN]; exact .bl _)⟩
  · cases hg
end

/-! ### in -/
def flatD : D → Bool
  | .non => true
  | .bl _ => true
  | .int _ => true
  | .str _ => true
  | _ => false
def eqF : D → D → Bool
  | .non, .non => true
  | .bl a, .bl b => a == b
  | .bl a, .int b => (if a then 1 else 0) == b
  | .int a, .bl b => a == (if b then 1 else 0)
  | .int a, .int b => a == b
  | .str a, .str b => a == b
  | _, _ => false
theorem Rep.flat {k : Cn} {ρ : Rho} {H : Hp} {d : D} {v : V} (r : Rep k ρ H d v) (h : flatD d = true) : flatV v = true := by
  cases r <;> first | rfl | (simp [flatD] at h)
theorem Rep.eqF {k : Cn} {ρ : Rho} {H : Hp} {d e : D} {v w : V} (r : Rep k ρ H d v) (q : Rep k ρ H e w) (h1 : flatD d = true) (h2 : flatD e = true) : eqV v w = eqF d e := by
  cases r <;> first | (simp [flatD] at h1; done) | (cases q <;> first | rfl | (simp [flatD] at h2))
theorem Reps.flat {k : Cn} {ρ : Rho} {H : Hp} : ∀ {ds : List D} {vs : List V}, Reps k ρ H ds vs → ds.all flatD = true → vs.all flatV = true
  | _, _, .nil, _ => rfl
  | _, _, .cons r t, h => by
    simp only [List.all_cons, Bool.and_eq_true] at h ⊢
    exact ⟨r.flat h.1, Reps.flat t h.2⟩
theorem Reps.inV {k : Cn} {ρ : Rho} {H : Hp} {d : D} {v : V} (r : Rep k ρ H d v) (hd : flatD d = true) : ∀ {ds : List D} {vs : List V}, Reps k ρ H ds vs → ds.all flatD = true → inV v vs = ds.any fun y => eqF y d
  | _, _, .nil, _ => rfl
  | _, _, .cons q t, h => by
    simp only [List.all_cons, Bool.and_eq_true] at h
    have ih := Reps.inV r hd t h.2
    unfold L2.inV at ih ⊢
    simp only [List.any_cons, ih, Rep.eqF q r h.1 hd]
def inG (neg : Bool) : D → D → Option D
  | .str x, .str z => match x.cps.toList with
    | [c] => some (.bl (neg ^^ decide (c ∈ z.cps.toList)))
    | _ => none
  | x, .lst ds => if flatD x && ds.all flatD then some (.bl (neg ^^ ds.any fun y => eqF y x)) else none
  | x, .tup ds => if flatD x && ds.all flatD then some (.bl (neg ^^ ds.any fun y => eqF y x)) else none
  | _, _ => none
def gIn : D → D → Option D := inG false
def gNotIn : D → D → Option D := inG true
section
variable {X : Cx} {k : Cn}
theorem str_one {x : Str} {c : Nat} (h : x.cps.toList = [c]) : x = ⟨#[c]⟩ := by
  cases x with
  | mk a =>
    have h' : a.toList = [c] := h
    congr 1
    apply Array.ext'
    simpa using h'
theorem inA_ok {neg : Bool} {f : Value → Value → Sem Value} (hseq : OpR X f (rIn X.K neg)) (hsgn : OpR X f (fun x y H Q => ∃ (c : Nat) (z : Str), x = .str ⟨#[c]⟩ ∧ y = .str z ∧ Q (.bl (neg ^^ decide (c ∈ z.cps.toList))) H)) (hK : k.K = X.K) : OpM k X f (inG neg) := by
  intro ρ S dx dy d hg pins s σ H x y v u Q I rx ry m r1 r2 q
  have seq : ∀ {dx : D} {ds : List D}, RR k ρ H dx x → (if flatD dx && ds.all flatD then some (D.bl (neg ^^ ds.any fun y => eqF y dx)) else none) = some d →
      (∃ p vs, y = .ref p ∧ (SqL X.K H p vs ∨ SqT X.K H p vs) ∧ Reps k ρ H ds vs) → wpAny (model X.prog X.w) X.A (f v u) (EP X pins σ Q) X.xe s := by
    intro dx ds r1 hg hy
    split at hg
    · rename_i hf
      simp only [Bool.and_eq_true] at hf
      cases hg
      obtain ⟨p, vs, rfl, hs, rs⟩ := hy
      have r1' : Rep k ρ H dx x := by
        cases r1 with
        | st r => exact r
        | lst _ _ => simp [flatD] at hf
        | dic _ _ => simp [flatD] at hf
      refine hseq pins s σ H _ _ v u Q I rx ry ⟨p, vs, rfl, hs, r1'.flat hf.1, rs.flat hf.2, q _ H (Same.refl _) ?_⟩
      rw [Reps.inV r1' hf.1 rs hf.2]
      cases neg
      · simp only [Bool.false_xor]; exact .bl _
      · simp only [Bool.true_xor, if_pos]; exact .bl _
    · cases hg
  unfold inG at hg
  split at hg
  · split at hg
    · rename_i c hx; cases hg
      have e1 := r1.str_; have e2 := r2.str_; subst e1 e2
      exact hsgn pins s σ H _ _ v u Q I rx ry ⟨c, _, by rw [str_one hx], rfl, q _ H (Same.refl _) (.bl _)⟩
    · cases hg
  · obtain ⟨a, vs, rfl, e, p⟩ := r2.lst_
    exact seq r1 hg ⟨a, vs, rfl, .inl (SqL.of e), p⟩
  · obtain ⟨a, vs, rfl, e, p⟩ := r2.tup_
    exact seq r1 hg ⟨a, vs, rfl, .inr (by rw [← hK]; exact e), p⟩
  · cases hg
theorem o_in (hK : k.K = X.K := by rfl) : OpM k X (compareOp .In) gIn := inA_ok op_in_seq (fun pins s σ H x y v u Q I rx ry ⟨c, z, e1, e2, q⟩ => op_in_sign pins s σ H x y v u Q I rx ry ⟨c, z, e1, e2, by rw [Bool.false_xor] at q; exact q⟩) hK
theorem o_notIn (hK : k.K = X.K := by rfl) : OpM k X (compareOp .NotIn) gNotIn := inA_ok op_notIn_seq (fun pins s σ H x y v u Q I rx ry ⟨c, z, e1, e2, q⟩ => op_notIn_sign pins s σ H x y v u Q I rx ry ⟨c, z, e1, e2, by rw [Bool.true_xor] at q; exact q⟩) hK
end
end Sh
set_option Elab.async false
set_option linter.all false
set_option maxRecDepth 100000
set_option maxHeartbeats 4000000
namespace Sh
open PySem L2

/-! ### one-place operators, chains as tests -/
def gNeg : D → Option D
  | .int i => some (.int (-i))
  | _ => none
@[reducible] def eUn (g : D → Option D) (a : EM D) : EM D := bindE a fun x => fun e S => liftO (g (deref S x)) e S
section
variable {X : Cx} {k : Cn} {W : WX} {a b c : Expr} {pos : Pos} {ma mb mc : EM D}
theorem c_neg (ha : PE X a (tI k W ma)) : PE X (.UnaryOp .USub a pos) (tI k W (eUn gNeg ma)) := (pe_un un_neg ha).imp fun σ H Q ⟨ρ, S, e, sim, sr, h⟩ => by
  refine At.bind sim sr h fun v1 d1 ρ1 S1 H1 x1 sim1 sr1 r1 h1 => ?_
  have rr := RR.of sim1 r1
  generalize deref S1 d1 = d0 at h1 rr
  cases d0 with
  | int i => exact ⟨i, rr.int_, h1 _ H1 ρ1 Ext.refl sim1 (.int _)⟩
  | _ => exact (show False from h1).elim
theorem c_tchain {op op' : CmpOp} {g g' : D → D → Option D} (ho : OpM k X (compareOp op) g) (ho' : OpM k X (compareOp op') g') (ha : PE X a (tI k W ma)) (hb : PE X b (tI k W mb)) (hc : PE X c (tI k W mc)) (hm : lastMarks [op, op'] [b, c] = false := by with_unfolding_all rfl) :
    PT X (.Compare a [op, op'] [b, c] pos) (tT k W (asB (eChain g g' ma mb mc))) := (pt_chain ho.opR ho'.opR ha hb hc hm).imp fun _ _ _ h => test_read (fun _ _ _ q => chain_read q) h
/-- a constant of the module; a built-in's name -/
def GRep (k : Cn) (d : D) (v : V) : Prop := ∀ ρ H, Rep k ρ H d v
theorem c_glob {x : Str} {d : D} {v : V} {u : Value} (hm : X.mg x = some u) (r : RelV v u) (hr : GRep k d v) (hg : Gl X x := by rfl) (hd : (x == ("__debug__" : Str)) = false := by decide) : PE X (.Name x pos) (tI k W (eC d)) :=
  (pe_glob hg hm r hd).imp fun σ H Q ⟨ρ, S, e, sim, sr, h⟩ => h _ H ρ Ext.refl sim (hr ρ H)
theorem c_ty {x : Str} {n : String} (hm : X.mg x = none) (hv : bootBuiltins x = some (.type n)) (hg : Gl X x := by rfl) (hn : x ≠ "__name__" := by decide) (hd : (x == ("__debug__" : Str)) = false := by decide) : PE X (.Name x pos) (tI k W (eC (.ty n))) :=
  (pe_bltn (v := .ty n) hg hm hv rfl hn hd).imp fun σ H Q ⟨ρ, S, e, sim, sr, h⟩ => h _ H ρ Ext.refl sim (.ty n)
end

/-! ### items, slices -/
theorem atI_rep {k : Cn} {ρ : Rho} {H : Hp} {ds : List D} {vs : List V} {i : Int} {d : D} (r : Reps k ρ H ds vs) (h : atI ds i = some d) : ∃ v, atI vs i = some v ∧ Rep k ρ H d v := by
  unfold atI at h ⊢
  rw [← r.length]
  cases q : ixN ds.length i with
  | none => rw [q] at h; cases h
  | some j =>
    rw [q] at h
    have h' : ds[j]? = some d := h
    obtain ⟨v, h1, h2⟩ := r.get h'
    exact ⟨v, h1, h2⟩
def dLook (kvs : List (Key × D)) (x : Key) : Option D := (kvs.find? fun kv => decide (kv.1 = x)).map (·.2)
theorem dLook_pos {x y : Key} {d : D} {r : List (Key × D)} (e : y = x) : dLook ((y, d) :: r) x = some d := by simp [dLook, List.find?_cons, e]
theorem dLook_neg {x y : Key} {d : D} {r : List (Key × D)} (e : ¬ y = x) : dLook ((y, d) :: r) x = dLook r x := by simp [dLook, List.find?_cons, e]
theorem RepK.look {k : Cn} {ρ : Rho} {H : Hp} {x : Key} : ∀ {kvs : List (Key × D)} {ws : List (Key × V)}, RepK k ρ H kvs ws → (∀ d, dLook kvs x = some d → ∃ v, valV ws x = some v ∧ Rep k ρ H d v) ∧ (dLook kvs x = none → valV ws x = none)
  | _, _, .nil => ⟨fun d h => by simp [dLook] at h, fun _ => rfl⟩
  | _, _, .cons (x := y) (d := d) (v := v) r t => by
    obtain ⟨h1, h2⟩ := RepK.look (x := x) t
    by_cases e : y = x
    · rw [dLook_pos e, valV_pos (p := (y, v)) e]
      exact ⟨fun d' h => by cases h; exact ⟨v, rfl, r⟩, fun h => by cases h⟩
    · rw [dLook_neg e, valV_neg (p := (y, v)) e]
      exact ⟨h1, h2⟩
@[reducible] def toKey : D → Option Key
  | .int i => some (.inl i)
  | .str x => some (.inr x)
  | _ => none
theorem RR.key {k : Cn} {ρ : Rho} {H : Hp} {d : D} {v : V} {x : Key} (r : RR k ρ H d v) (h : toKey d = some x) : v = kV x := by
  cases d with
  | int i => cases h; exact r.int_
  | str i => cases h; exact r.str_
  | _ => cases h
def gIdx : D → D → Option D
  | .lst xs, .int i => atI xs i
  | .tup xs, .int i => atI xs i
  | .fls xs, .int i => atI xs i
  | .str z, .int i => if z.length ≤ cap then (atI z.cps.toList i).map fun c => .str ⟨#[c]⟩ else none
  | .dic kvs, x => (toKey x).bind (dLook kvs)
  | _, _ => none
section
variable {X : Cx} {k : Cn} {W : WX} {a b : Expr} {pos p2 : Pos} {ma mb : EM D}
theorem c_idx (hu : X.A.units + 1 < cLine) (ha : PE X a (tI k W ma)) (hb : PE X b (tI k W mb)) (hK : k.K = X.K := by rfl) (hs : PlainIx b := by exact fun _ _ => rfl) : PE X (.Subscript a b pos) (tI k W (eOp gIdx ma mb)) := by
  refine ⟨fun pins s σ H Q I h => ?_⟩
  refine PyProof.Rows.Subscript_ (binT ha hb I (op_read (β := Unit) h) fun v u s2 x y H2 I2 rx ry q => ?_)
  obtain ⟨ρ, S, dx, dy, d, hg, m, r1, r2, q⟩ := q
  have fin : ∀ {z : V}, Rep k ρ H2 d z → Q z H2 := fun r => q _ H2 (Same.refl _) r
  unfold gIdx at hg
  split at hg
  · obtain ⟨p, vs, rfl, e, rs⟩ := r1.lst_
    obtain ⟨z, h1, h2⟩ := atI_rep rs hg
    exact ix_list a b pins s2 σ H2 _ y v u Q I2 rx ry ⟨p, vs, _, z, rfl, r2.int_, SqL.of e, h1, fin h2⟩ (hs _ _)
  · obtain ⟨p, vs, rfl, e, rs⟩ := r1.tup_
    obtain ⟨z, h1, h2⟩ := atI_rep rs hg
    exact ix_tup a b pins s2 σ H2 _ y v u Q I2 rx ry ⟨p, vs, _, z, rfl, r2.int_, by rw [← hK]; exact e, h1, fin h2⟩ (hs _ _)
  · obtain ⟨p, vs, rfl, e, rs⟩ := r1.fls_
    obtain ⟨z, h1, h2⟩ := atI_rep rs hg
    exact ix_list a b pins s2 σ H2 _ y v u Q I2 rx ry ⟨p, vs, _, z, rfl, r2.int_, by rw [← hK]; exact e.sq, h1, fin h2⟩ (hs _ _)
  · split at hg
    · rename_i z i hz
      cases hc : atI z.cps.toList i with
      | none => rw [hc] at hg; cases hg
      | some c =>
        rw [hc] at hg; cases hg
        exact ix_str a b pins s2 σ H2 x y v u Q I2 rx ry ⟨_, _, c, r1.str_, r2.int_, cap_le hz, hc, fin (.str _)⟩ (hs _ _)
    · cases hg
  · rename_i kvs
    cases hk : toKey dy with
    | none => rw [hk] at hg; cases hg
    | some x0 =>
      rw [hk] at hg
      have hg' : dLook kvs x0 = some d := hg
      obtain ⟨p, ws, rfl, e, rs⟩ := r1.dic_
      obtain ⟨z, h1, h2⟩ := rs.look.1 d hg'
      have ey := r2.key hk
      subst ey
      cases rx
      have g : DGet H2 p (kV x0) (some z) := by rw [← h1]; exact DGet.k e
      exact PyProof.Rows.tail_any (dict_typeIs I2 g) PySem.F.slot_dict_getitem.lookup (d_getItem hu I2 g ry fun w' s3 I3 rw' => ⟨z, H2, I3, rw', fin h2⟩) (hs _ _)
  · cases hg
def cutD (xs : List D) (lo hi : Option Int) : List D := (xs.drop (HT.sIx xs.length 0 lo)).take (HT.sIx xs.length xs.length hi - HT.sIx xs.length 0 lo)
theorem Reps.cut {ρ : Rho} {H : Hp} {ds : List D} {vs : List V} (r : Reps k ρ H ds vs) (lo hi : Option Int) : Reps k ρ H (cutD ds lo hi) (cutV vs lo hi) := by
  unfold cutD cutV
  rw [← r.length]
  exact (r.drop _).take _
def gCut (d : D) (lo hi : Option Int) : Option D := match d with
  | .lst xs => some (.lst (cutD xs lo hi))
  | .tup xs => some (.tup (cutD xs lo hi))
  | .str z => if z.length ≤ cap then some (.str (cutS z lo hi)) else none
  | _ => none
@[reducible] def asI (m : EM D) : EM (Option Int) := bindE m fun d => fun _ S => match d with
  | .int i => .ok (some i) S
  | _ => .bad
@[reducible] def noI : EM (Option Int) := fun _ S => .ok none S
abbrev RpO : Rho → Hp → Option Int → Option Int → Prop := fun _ _ b c => b = c
abbrev tO (k : Cn) (W : WX) (m : EM (Option Int)) : TO := tR k RpO W m
theorem _root_.L2.PO.imp {X : Cx} {e : Option Expr} {t u : TO} (h : PO X e t) (i : ∀ σ H Q, u σ H Q → t σ H Q) : PO X e u := ⟨fun pins s σ H Q I q => h.run pins s σ H Q I (i _ _ _ q)⟩
theorem c_onone : PO X none (tO k W noI) := po_none.imp fun σ H Q ⟨ρ, S, e, sim, sr, h⟩ => h _ H ρ Ext.refl sim rfl
theorem c_osome {e : Expr} (h : PE X e (tI k W ma)) : PO X (some e) (tO k W (asI ma)) := (po_some h).imp fun σ H Q ⟨ρ, S, e, sim, sr, h⟩ => by
  refine At.bind sim sr h fun v d ρ1 S1 H1 x1 sim1 sr1 r1 h1 => ?_
  cases d with
  | int i => cases r1; exact ⟨i, rfl, h1 _ H1 ρ1 Ext.refl sim1 rfl⟩
  | _ => exact (show False from h1).elim
@[reducible] def eCut (a : EM D) (lo hi : EM (Option Int)) : EM D := bindE a fun x => bindE lo fun l => bindE hi fun u => fun e S => liftO (gCut (deref S x) l u) e S
def rCut (k : Cn) : V → Option Int → Option Int → Hp → VK → Prop := fun x lo hi H Q => ∃ ρ S dx d, gCut dx lo hi = some d ∧ Sim k ρ S H ∧ RR k ρ H dx x ∧ ∀ z H', Same H H' → Rep k ρ H' d z → Q z H'
theorem sl_cut (hK : k.K = X.K) : SlR X (rCut k) := by
  intro pins s σ H x v vl vu lo hi sl Q I rx hs pl pu ⟨ρ, S, dx, d, hg, m, r, q⟩
  unfold gCut at hg
  split at hg
  · cases hg
    obtain ⟨p, vs, rfl, e, rs⟩ := r.lst_
    exact sl_list pins s σ H _ v vl vu lo hi sl Q I rx hs pl pu ⟨p, vs, rfl, SqL.of e, fun p hp => q _ _ (same_new hp) (Rep.newL m hp (rs.cut lo hi))⟩
  · cases hg
    obtain ⟨p, vs, rfl, e, rs⟩ := r.tup_
    refine sl_tupA pins s σ H _ v vl vu lo hi sl Q I rx hs pl pu ⟨p, vs, rfl, by rw [← hK]; exact e, fun ⟨z1, z2⟩ => q _ H (Same.refl _) ?_, fun _ p hp => q _ _ (same_new hp) (Rep.newT m hp (rs.cut lo hi))⟩
    have e1 : cutV vs lo hi = vs := by
      unfold cutV
      rw [z1, z2]
      simp
    have := rs.cut lo hi
    rw [e1] at this
    exact .tup e this
  · split at hg
    · rename_i hz; cases hg
      exact sl_str pins s σ H x v vl vu lo hi sl Q I rx hs pl pu ⟨_, r.str_, cap_le hz, q _ H (Same.refl _) (.str _)⟩
    · cases hg
  · cases hg
theorem c_cut {lo hi : Option Expr} {ml mh : EM (Option Int)} (ha : PE X a (tI k W ma)) (hl : PO X lo (tO k W ml)) (hh : PO X hi (tO k W mh)) (hK : k.K = X.K := by rfl) : PE X (.Subscript a (.Slice lo hi none p2) pos) (tI k W (eCut ma ml mh)) :=
  (pe_slice (sl_cut hK) ha hl hh).imp fun σ H Q ⟨ρ, S, e, sim, sr, h⟩ => by
  refine At.bind sim sr h fun v1 d1 ρ1 S1 H1 x1 sim1 sr1 r1 h1 => ?_
  refine At.bind sim1 sr1 h1 fun l l' ρ2 S2 H2 x2 sim2 sr2 e2 h2 => ?_
  refine At.bind sim2 sr2 h2 fun u u' ρ3 S3 H3 x3 sim3 sr3 e3 h3 => ?_
  obtain rfl : l' = l := e2
  obtain rfl : u' = u := e3
  unfold liftO at h3
  split at h3
  · rename_i d q
    exact ⟨ρ3, S3, _, d, q, sim3, RR.of sim3 ((r1.ext sim1 x2).ext sim2 x3), fun z H' s r => h3 z H' ρ3 (Ext.same sim3 s) (sim3.same s) r⟩
  · exact h3.elim
/-- xs[::-1] -/
def gRev : D → Option D
  | .lst xs => some (.lst xs.reverse)
  | _ => none
theorem c_rev {n : Nat} {p1 p3 : Pos} (ha : PE X a (tI k W ma)) : PE X (.Subscript a (.Slice none none (some (.UnaryOp .USub (.Constant (.int 1) n p1) p2)) p3) pos) (tI k W (eUn gRev ma)) :=
  (pe_revL ha).imp fun σ H Q ⟨ρ, S, e, sim, sr, h⟩ => by
  refine At.bind sim sr h fun v1 d1 ρ1 S1 H1 x1 sim1 sr1 r1 h1 => ?_
  have rr := RR.of sim1 r1
  generalize deref S1 d1 = d0 at h1 rr
  cases d0 with
  | lst xs =>
    obtain ⟨p, vs, rfl, e, rs⟩ := rr.lst_
    exact ⟨p, vs, rfl, SqL.of e, fun p hp => h1 _ _ ρ1 (Ext.same sim1 (same_new hp)) (sim1.same (same_new hp)) (Rep.newL sim1 hp rs.reverse)⟩
  | _ => exact (show False from h1).elim
end

/-! ### built-in functions -/
inductive RRs (k : Cn) (ρ : Rho) (H : Hp) : List D → List V → Prop
  | nil : RRs k ρ H [] []
  | cons {d : D} {v : V} {ds : List D} {vs : List V} : RR k ρ H d v → RRs k ρ H ds vs → RRs k ρ H (d :: ds) (v :: vs)
theorem RRs.of {k : Cn} {ρ : Rho} {S : Sto} {H : Hp} (m : Sim k ρ S H) : ∀ {ds : List D} {vs : List V}, Reps k ρ H ds vs → RRs k ρ H (ds.map (deref S)) vs
  | _, _, .nil => .nil
  | _, _, .cons r t => .cons (RR.of m r) (RRs.of m t)
def CallM (k : Cn) (X : Cx) (f : Value) (g : List D → Option D) : Prop :=
  ∀ (ρ : Rho) (S : Sto) (ds : List D) (d : D), g ds = some d → ∀ (pins : List (Addr × Obj)) (s : Shared) (σ : L2.St) (H : Hp) (xs : List V) (us : List Value) (Q : VK), Inv X pins σ H s → Vals xs us → Sim k ρ S H → RRs k ρ H ds xs →
    (∀ z H', Same H H' → Rep k ρ H' d z → Q z H') → wpAny (model X.prog X.w) X.A (call f us) (EP X pins σ Q) X.xe s
def rCM (k : Cn) (g : List D → Option D) : List V → Hp → VK → Prop := fun xs H Q => ∃ ρ S ds d, g ds = some d ∧ Sim k ρ S H ∧ RRs k ρ H ds xs ∧ ∀ z H', Same H H' → Rep k ρ H' d z → Q z H'
theorem CallM.callR {k : Cn} {X : Cx} {f : Value} {g : List D → Option D} (h : CallM k X f g) : CallR X f (rCM k g) := fun pins s σ H xs us Q I r ⟨ρ, S, ds, d, e, m, rr, q⟩ => h ρ S ds d e pins s σ H xs us Q I r m rr q
@[reducible] def eCallB (g : List D → Option D) (m : EM (List D)) : EM D := bindE m fun xs => fun e S => liftO (g (xs.map (deref S))) e S
section
variable {X : Cx} {k : Cn} {W : WX} {a : Expr} {es : List Expr} {x : Str} {p pos : Pos} {id T : String} {g : List D → Option D} {m : EM (List D)}
theorem callB_read {σ : L2.St} {H : Hp} {Q : VK} (h : tI k W (eCallB g m) σ H Q) : tCB (rCM k g) (tL k W m) σ H Q := by
  obtain ⟨ρ, S, e, sim, sr, h⟩ := h
  refine At.bind sim sr h fun v1 d1 ρ1 S1 H1 x1 sim1 sr1 r1 h1 => ?_
  unfold liftO at h1
  split at h1
  · rename_i d q
    exact ⟨ρ1, S1, _, d, q, sim1, RRs.of sim1 r1, fun z H' s r => h1 z H' ρ1 (Ext.same sim1 s) (sim1.same s) r⟩
  · exact h1.elim
theorem c_callB (hc : CallM k X (.builtin id) g) (hm : X.mg x = none) (hv : bootBuiltins x = some (.builtin id)) (ha : PA X (a :: es) (tL k W m)) (hg : Gl X x := by rfl) (hn : x ≠ "__name__" := by decide) (hdb : (x == ("__debug__" : Str)) = false := by decide)
    (he : starEach (a :: es) X.env = (false, eval a X.env) :: starEach es X.env := by rfl) (hpl : (backTo pos (starEach es X.env)).any (·.1) = false := by rfl) : PE X (.Call (.Name x p) (a :: es) [] pos) (tI k W (eCallB g m)) :=
  (pe_callB hc.callR hg hm hv ha hn hdb he hpl).imp fun _ _ _ h => callB_read h
theorem c_callTy (hc : CallM k X (.type T) g) (hm : X.mg x = none) (hv : bootBuiltins x = some (.type T)) (ha : PA X (a :: es) (tL k W m)) (hg : Gl X x := by rfl) (hn : x ≠ "__name__" := by decide) (hdb : (x == ("__debug__" : Str)) = false := by decide)
    (he : starEach (a :: es) X.env = (false, eval a X.env) :: starEach es X.env := by rfl) (hpl : (backTo pos (starEach es X.env)).any (·.1) = false := by rfl) : PE X (.Call (.Name x p) (a :: es) [] pos) (tI k W (eCallB g m)) :=
  (pe_callTy hc.callR hg hm hv ha hn hdb he hpl).imp fun _ _ _ h => callB_read h
end
end Sh
set_option Elab.async false
set_option linter.all false
set_option maxRecDepth 100000
set_option maxHeartbeats 4000000
namespace Sh
open PySem L2

/-! ### the built-in functions -/
theorem rr1 {k : Cn} {ρ : Rho} {H : Hp} {d : D} {vs : List V} (r : RRs k ρ H [d] vs) : ∃ v, vs = [v] ∧ RR k ρ H d v := by
  cases r with | cons r t => cases t; exact ⟨_, rfl, r⟩
theorem rr2 {k : Cn} {ρ : Rho} {H : Hp} {d d' : D} {vs : List V} (r : RRs k ρ H [d, d'] vs) : ∃ v v', vs = [v, v'] ∧ RR k ρ H d v ∧ RR k ρ H d' v' := by
  cases r with | cons r t => cases t with | cons r' t => cases t; exact ⟨_, _, rfl, r, r'⟩
def gLen : List D → Option D
  | [.lst xs] => some (.int xs.length)
  | [.tup xs] => some (.int xs.length)
  | [.fls xs] => some (.int xs.length)
  | [.dic xs] => some (.int xs.length)
  | [.str z] => if z.length ≤ cap then some (.int z.length) else none
  | _ => none
theorem RepK.length {k : Cn} {ρ : Rho} {H : Hp} : ∀ {ds : List (Key × D)} {vs : List (Key × V)}, RepK k ρ H ds vs → ds.length = vs.length
  | _, _, .nil => rfl
  | _, _, .cons _ t => by simp [RepK.length t]
section
variable {X : Cx} {k : Cn}
theorem f_len (hK : k.K = X.K := by rfl) : CallM k X (.builtin "len") gLen := by
  intro ρ S ds d hg pins s σ H xs us Q I rv m rr q
  have fin : ∀ {z : V}, Rep k ρ H d z → Q z H := fun r => q _ H (Same.refl _) r
  unfold gLen at hg
  split at hg
  · cases hg; obtain ⟨v, rfl, r⟩ := rr1 rr; obtain ⟨a, vs, rfl, e, rs⟩ := r.lst_
    exact call_len pins s σ H _ us Q I rv ⟨_, vs.length, rfl, .inl ⟨vs, SqL.of e, rfl⟩, fin (by rw [rs.length]; exact .int _)⟩
  · cases hg; obtain ⟨v, rfl, r⟩ := rr1 rr; obtain ⟨a, vs, rfl, e, rs⟩ := r.tup_
    exact call_len pins s σ H _ us Q I rv ⟨_, vs.length, rfl, .inr ⟨vs, by rw [← hK]; exact e, rfl⟩, fin (by rw [rs.length]; exact .int _)⟩
  · cases hg; obtain ⟨v, rfl, r⟩ := rr1 rr; obtain ⟨a, vs, rfl, e, rs⟩ := r.fls_
    exact call_len pins s σ H _ us Q I rv ⟨_, vs.length, rfl, .inl ⟨vs, by rw [← hK]; exact e.sq, rfl⟩, fin (by rw [rs.length]; exact .int _)⟩
  · cases hg; obtain ⟨v, rfl, r⟩ := rr1 rr; obtain ⟨a, ws, rfl, e, rs⟩ := r.dic_
    exact call_lenD pins s σ H _ us Q I rv ⟨a, ws, rfl, e, fin (by rw [rs.length]; exact .int _)⟩
  · split at hg
    · rename_i hz; cases hg; obtain ⟨v, rfl, r⟩ := rr1 rr
      have e := r.str_; subst e
      exact call_len pins s σ H _ us Q I rv ⟨_, _, rfl, ⟨cap_le hz, rfl⟩, fin (.int _)⟩
    · cases hg
  · cases hg
def gInt : List D → Option D
  | [.int i] => some (.int i)
  | [.bl b] => some (.int (if b then 1 else 0))
  | _ => none
theorem f_int : CallM k X (.type "int") gInt := by
  intro ρ S ds d hg pins s σ H xs us Q I rv m rr q
  unfold gInt at hg
  split at hg
  · cases hg; obtain ⟨v, rfl, r⟩ := rr1 rr; have e := r.int_; subst e
    exact call_int1 pins s σ H _ us Q I rv (.inl ⟨_, rfl, q _ H (Same.refl _) (.int _)⟩)
  · cases hg; obtain ⟨v, rfl, r⟩ := rr1 rr; have e := r.bl_; subst e
    exact call_int1 pins s σ H _ us Q I rv (.inr ⟨_, rfl, q _ H (Same.refl _) (.int _)⟩)
  · cases hg
def gMin : List D → Option D
  | [.int i, .int j] => some (.int (if j < i then j else i))
  | _ => none
theorem f_min (hc : X.calm = true := by rfl) : CallM k X (.builtin "min") gMin := by
  intro ρ S ds d hg pins s σ H xs us Q I rv m rr q
  unfold gMin at hg
  split at hg
  · cases hg; obtain ⟨v, v', rfl, r, r'⟩ := rr2 rr; have e := r.int_; have e' := r'.int_; subst e e'
    exact call_min2 hc pins s σ H _ us Q I rv ⟨_, _, rfl, q _ H (Same.refl _) (.int _)⟩
  · cases hg
def gList : List D → Option D
  | [.lst xs] => some (.lst xs)
  | [.fls xs] => some (.lst xs)
  | [.tup xs] => some (.lst xs)
  | _ => none
theorem f_list (hK : k.K = X.K := by rfl) : CallM k X (.type "list") gList := by
  intro ρ S ds d hg pins s σ H xs us Q I rv m rr q
  unfold gList at hg
  split at hg
  · cases hg; obtain ⟨v, rfl, r⟩ := rr1 rr; obtain ⟨a, vs, rfl, e, rs⟩ := r.lst_
    exact call_list_of pins s σ H _ us Q I rv ⟨a, vs, rfl, .inl (SqL.of e), fun p hp => q _ _ (same_new hp) (Rep.newL m hp rs)⟩
  · cases hg; obtain ⟨v, rfl, r⟩ := rr1 rr; obtain ⟨a, vs, rfl, e, rs⟩ := r.fls_
    exact call_list_of pins s σ H _ us Q I rv ⟨a, vs, rfl, .inl (by rw [← hK]; exact e.sq), fun p hp => q _ _ (same_new hp) (Rep.newL m hp rs)⟩
  · cases hg; obtain ⟨v, rfl, r⟩ := rr1 rr; obtain ⟨a, vs, rfl, e, rs⟩ := r.tup_
    exact call_list_of pins s σ H _ us Q I rv ⟨a, vs, rfl, .inr (by rw [← hK]; exact e), fun p hp => q _ _ (same_new hp) (Rep.newL m hp rs)⟩
  · cases hg
def gTuple : List D → Option D
  | [.lst xs] => some (.tup xs)
  | [.tup xs] => some (.tup xs)
  | _ => none
theorem f_tuple (hK : k.K = X.K := by rfl) : CallM k X (.type "tuple") gTuple := by
  intro ρ S ds d hg pins s σ H xs us Q I rv m rr q
  unfold gTuple at hg
  split at hg
  · cases hg; obtain ⟨v, rfl, r⟩ := rr1 rr; obtain ⟨a, vs, rfl, e, rs⟩ := r.lst_
    exact call_tuple_of pins s σ H _ us Q I rv ⟨a, vs, rfl, .inl ⟨SqL.of e, fun p hp => q _ _ (same_new hp) (Rep.newT m hp rs)⟩⟩
  · cases hg; obtain ⟨v, rfl, r⟩ := rr1 rr; obtain ⟨a, vs, rfl, e, rs⟩ := r.tup_
    exact call_tuple_of pins s σ H _ us Q I rv ⟨a, vs, rfl, .inr ⟨by rw [← hK]; exact e, q _ H (Same.refl _) (.tup e rs)⟩⟩
  · cases hg
@[reducible] def toB : List D → Option (List Bool)
  | [] => some []
  | .bl b :: r => (toB r).map (b :: ·)
  | _ => none
theorem Reps.bools {ρ : Rho} {H : Hp} : ∀ {ds : List D} {vs : List V} {bs : List Bool}, Reps k ρ H ds vs → toB ds = some bs → vs = bs.map V.bl
  | _, _, _, .nil, h => by cases h; rfl
  | .bl b :: ds, _, _, .cons r t, h => by
    cases q : toB ds with
    | none => simp only [toB, q] at h; cases h
    | some cs =>
      simp only [toB, q, Option.map_some] at h; cases h
      cases r
      rw [Reps.bools t q]; rfl
  | .non :: _, _, _, .cons _ _, h => by cases h
  | .int _ :: _, _, _, .cons _ _, h => by cases h
  | .str _ :: _, _, _, .cons _ _, h => by cases h
  | .tup _ :: _, _, _, .cons _ _, h => by cases h
  | .lst _ :: _, _, _, .cons _ _, h => by cases h
  | .fls _ :: _, _, _, .cons _ _, h => by cases h
  | .ftp _ :: _, _, _, .cons _ _, h => by cases h
  | .dic _ :: _, _, _, .cons _ _, h => by cases h
  | .loc _ :: _, _, _, .cons _ _, h => by cases h
  | .ty _ :: _, _, _, .cons _ _, h => by cases h
  | .rng _ _ :: _, _, _, .cons _ _, h => by cases h
def gAll : List D → Option D
  | [.lst xs] => (toB xs).map fun bs => .bl (bs.all id)
  | _ => none
def gAny : List D → Option D
  | [.lst xs] => (toB xs).map fun bs => .bl (bs.any id)
  | _ => none
theorem f_all (hc : X.calm = true := by rfl) : CallM k X (.builtin "all") gAll := by
  intro ρ S ds d hg pins s σ H xs us Q I rv m rr q
  unfold gAll at hg
  split at hg
  · rename_i ys
    obtain ⟨v, rfl, r⟩ := rr1 rr; obtain ⟨a, vs, rfl, e, rs⟩ := r.lst_
    cases hb : toB ys with
    | none => rw [hb] at hg; cases hg
    | some bs =>
      rw [hb] at hg; cases hg
      have ev := rs.bools hb; subst ev
      exact cr_all hc pins s σ H _ us Q I rv ⟨a, bs, rfl, SqL.of e, q _ H (Same.refl _) (.bl _)⟩
  · cases hg
theorem f_any (hc : X.calm = true := by rfl) : CallM k X (.builtin "any") gAny := by
  intro ρ S ds d hg pins s σ H xs us Q I rv m rr q
  unfold gAny at hg
  split at hg
  · rename_i ys
    obtain ⟨v, rfl, r⟩ := rr1 rr; obtain ⟨a, vs, rfl, e, rs⟩ := r.lst_
    cases hb : toB ys with
    | none => rw [hb] at hg; cases hg
    | some bs =>
      rw [hb] at hg; cases hg
      have ev := rs.bools hb; subst ev
      exact cr_any hc pins s σ H _ us Q I rv ⟨a, bs, rfl, SqL.of e, q _ H (Same.refl _) (.bl _)⟩
  · cases hg
/-- the name of a thing's type -/
def tyN : D → Option String
  | .non => some "NoneType"
  | .bl _ => some "bool"
  | .int _ => some "int"
  | .str _ => some "str"
  | .tup _ => some "tuple"
  | .lst _ => some "list"
  | .fls _ => some "list"
  | .dic _ => some "dict"
  | _ => none
/-- is a thing of the type t one of the class c -/
def isiN (t c : String) : Option Bool :=
  if c = "int" then some (t == "int" || t == "bool")
  else if c = "bool" then some (t == "bool")
  else if c = "str" then some (t == "str")
  else if c = "tuple" then some (t == "tuple")
  else none
def tyNames : List String := ["NoneType", "bool", "int", "str", "tuple", "list", "dict"]
theorem isiN_all : (tyNames.all fun t => ["int", "bool", "str", "tuple"].all fun c => decide (kitB t c = isiN t c)) = true := by decide +kernel
theorem tyN_mem {d : D} {t : String} (h : tyN d = some t) : t ∈ tyNames := by
  cases d <;> simp only [tyN] at h <;> cases h <;> decide
theorem isiN_kit {t c : String} {b : Bool} (ht : t ∈ tyNames) (h : isiN t c = some b) : kitB t c = some b := by
  have hc : c ∈ ["int", "bool", "str", "tuple"] := by
    unfold isiN at h
    split at h
    · subst c; decide
    · split at h
      · subst c; decide
      · split at h
        · subst c; decide
        · split at h
          · subst c; decide
          · cases h
  have q := isiN_all
  rw [List.all_eq_true] at q
  have q1 := q t ht
  rw [List.all_eq_true] at q1
  rw [of_decide_eq_true (q1 c hc)]
  exact h
theorem RR.tyx {ρ : Rho} {H : Hp} {d : D} {v : V} {t : String} (r : RR k ρ H d v) (h : tyN d = some t) : TyX k.K H v (.type t) := by
  cases r with
  | lst e _ => cases h; exact .base (.lst e)
  | dic e _ => cases h; exact .base (.dK e)
  | st r =>
    cases r with
    | non => cases h; exact .base .non
    | bl b => cases h; exact .base (.bl b)
    | int b => cases h; exact .base (.int b)
    | str b => cases h; exact .base (.str b)
    | tup hs _ =>
      cases h
      rcases hs with (e | ⟨o, e⟩) | ⟨o, its, n, e, c, _⟩
      · exact .base (.tup e)
      · exact .fTuple e
      · exact .kTuple e c
    | lst e _ _ => cases h; exact .base (.lst e)
    | fls e _ =>
      cases h
      rcases e with ⟨o, e⟩ | ⟨o, its, n, e, c, _⟩
      · exact .base (.frz e)
      · exact .kList e c
    | dic e _ _ => cases h; exact .base (.dK e)
    | ftp _ _ _ => cases h
    | ty n => cases h
    | rng _ => cases h
    | loc _ => cases h
def gIsi : List D → Option D
  | [d, .ty c] => (tyN d).bind fun t => (isiN t c).map .bl
  | _ => none
theorem f_isi (hK : k.K = X.K := by rfl) : CallM k X (.builtin "isinstance") gIsi := by
  intro ρ S ds d hg pins s σ H xs us Q I rv m rr q
  unfold gIsi at hg
  split at hg
  · rename_i d0 c
    obtain ⟨v, v', rfl, r, r'⟩ := rr2 rr
    have e' := r'.ty_; subst e'
    cases ht : tyN d0 with
    | none => rw [ht] at hg; cases hg
    | some t =>
      cases hb : isiN t c with
      | none => simp only [ht, Option.bind_some, hb] at hg; cases hg
      | some b =>
        simp only [ht, Option.bind_some, hb, Option.map_some] at hg; cases hg
        exact call_isi pins s σ H _ us Q I rv ⟨v, .ty c, .type t, .type c, b, rfl, .ty c, by rw [← hK]; exact r.tyx ht, kit_ty (isiN_kit (tyN_mem ht) hb), q _ H (Same.refl _) (.bl _)⟩
  · cases hg
end

/-! ### what is walked -/
@[reducible] def signs (z : Str) : List D := z.cps.toList.map fun c => .str ⟨#[c]⟩
@[reducible] def eSrc (m : EM D) : EM Src := bindE m fun d => fun _ S => match d with
  | .lst xs => .ok (.st xs) S
  | .tup xs => .ok (.st xs) S
  | .fls xs => .ok (.st xs) S
  | .ftp xs => .ok (.st xs) S
  | .str z => .ok (.st (signs z)) S
  | .loc l => match S[l]? with
    | some (.lst _) => .ok (.li l) S
    | _ => .bad
  | _ => .bad
section
variable {X : Cx} {k : Cn} {W : WX} {tg a : Expr} {pos : Pos} {ma : EM D}
theorem yld_list {ρ : Rho} {S : Sto} {H : Hp} {p : Addr} {vs : List V} {ds : List D} (m : Sim k ρ S H) (st : ∀ ρ' H', Ext0 ρ.length ρ ρ' H H' → SqL k.K H' p vs) (rs : Reps k ρ H ds vs) (inj : ∀ H' ys, SqL k.K H' p vs → SqL k.K H' p ys → True) : Yld k ρ H (.st ds) (Itl k.K p) where
  go := fun ρ' S' H' i d x _ h => by
    have hi : ds[i]? = some d := by simpa [item] using h
    obtain ⟨v, hv, _⟩ := rs.get hi
    exact ⟨vs, v, st ρ' H' x, hv⟩
  yld := fun ρ' S' H' i d v H2 x _ h y => by
    have hi : ds[i]? = some d := by simpa [item] using h
    obtain ⟨w, hw, rw'⟩ := rs.get hi
    obtain ⟨rfl, y⟩ := y
    have := y vs (st ρ' _ x)
    rw [hw] at this; cases this
    exact ⟨Same.refl _, rw'.ext0 m x⟩
  stop := fun ρ' S' H' i x _ h => by
    have hi : ds[i]? = none := by simpa [item] using h
    exact ⟨vs, st ρ' H' x, by rw [← rs.length]; exact List.getElem?_eq_none_iff.mp hi⟩
theorem yld_tup {ρ : Rho} {S : Sto} {H : Hp} {p : Addr} {vs : List V} {ds : List D} (m : Sim k ρ S H) (e : SqT k.K H p vs) (rs : Reps k ρ H ds vs) : Yld k ρ H (.st ds) (Itt k.K p) where
  go := fun ρ' S' H' i d x _ h => by
    have hi : ds[i]? = some d := by simpa [item] using h
    obtain ⟨v, hv, _⟩ := rs.get hi
    exact ⟨vs, v, SqT.ext0 m x e, hv⟩
  yld := fun ρ' S' H' i d v H2 x _ h y => by
    have hi : ds[i]? = some d := by simpa [item] using h
    obtain ⟨w, hw, rw'⟩ := rs.get hi
    obtain ⟨rfl, y⟩ := y
    have := y vs (SqT.ext0 m x e)
    rw [hw] at this; cases this
    exact ⟨Same.refl _, rw'.ext0 m x⟩
  stop := fun ρ' S' H' i x _ h => by
    have hi : ds[i]? = none := by simpa [item] using h
    exact ⟨vs, SqT.ext0 m x e, by rw [← rs.length]; exact List.getElem?_eq_none_iff.mp hi⟩
theorem yld_str {ρ : Rho} {H : Hp} {z : Str} : Yld k ρ H (.st (signs z)) (Its z) where
  go := fun ρ' S' H' i d x _ h => by
    have hi : (signs z)[i]? = some d := by simpa [item] using h
    have := (List.getElem?_eq_some_iff.mp hi).1
    show i < z.cps.size
    simpa [signs] using this
  yld := fun ρ' S' H' i d v H2 x _ h y => by
    have hi : (signs z)[i]? = some d := by simpa [item] using h
    obtain ⟨rfl, c, hc, rfl⟩ := y
    have e : (signs z)[i]? = some (.str ⟨#[c]⟩) := by
      simp only [signs, List.getElem?_map]
      rw [show z.cps.toList[i]? = some c by simpa using hc]; rfl
    rw [e] at hi; cases hi
    exact ⟨Same.refl _, .str _⟩
  stop := fun ρ' S' H' i x _ h => by
    have hi : (signs z)[i]? = none := by simpa [item] using h
    have := List.getElem?_eq_none_iff.mp hi
    show z.cps.size ≤ i
    simpa [signs] using this
theorem yld_loc {ρ : Rho} {S : Sto} {H : Hp} {p : Addr} {l : Nat} (hl : ρ.t[l]? = some (some p)) : Yld k ρ H (.li l) (Itl k.K p) := by
  have at_ : ∀ {ρ' : Rho} {S' : Sto} {H' : Hp} {i : Nat} {o : Option D}, Ext0 ρ.length ρ ρ' H H' → Sim k ρ' S' H' → item S' i (.li l) = some o → ∃ xs vs, o = xs[i]? ∧ H' p = some (.lst vs) ∧ Reps k ρ' H' xs vs := fun {ρ' S' H' i o} x m h => by
    have hl' := x.old l p (List.getElem?_eq_some_iff.mp hl).1 hl
    simp only [item] at h
    split at h
    · rename_i xs q
      cases h
      obtain ⟨vs, e, rs⟩ := m.at_ l p _ hl' q
      exact ⟨xs, vs, rfl, e, rs⟩
    · cases h
  refine ⟨fun ρ' S' H' i d x m h => ?_, fun ρ' S' H' i d v H2 x m h y => ?_, fun ρ' S' H' i x m h => ?_⟩
  · obtain ⟨xs, vs, e1, e2, rs⟩ := at_ x m h
    obtain ⟨v, hv, _⟩ := rs.get e1.symm
    exact ⟨vs, v, SqL.of e2, hv⟩
  · obtain ⟨xs, vs, e1, e2, rs⟩ := at_ x m h
    obtain ⟨w, hw, rw'⟩ := rs.get e1.symm
    obtain ⟨rfl, y⟩ := y
    have := y vs (SqL.of e2)
    rw [hw] at this; cases this
    exact ⟨Same.refl _, rw'⟩
  · obtain ⟨xs, vs, e1, e2, rs⟩ := at_ x m h
    exact ⟨vs, SqL.of e2, by rw [← rs.length]; exact List.getElem?_eq_none_iff.mp e1.symm⟩
theorem c_src (ha : PE X a (tI k W ma)) (hK : k.K = X.K := by rfl) : PI X tg a (tSrc k W (eSrc ma)) := by
  refine ⟨fun pins s σ H R I ⟨ρ, S, e, sim, sr, h⟩ => ?_⟩
  cases q : ma e S with
  | bad => simp only [eSrc, bindE, q] at h; exact (show False from h).elim
  | ex x S1 =>
    have t : iList X.K (tI k W ma) σ H R := ⟨ρ, S, e, sim, sr, by simp only [eSrc, bindE, q] at h; rw [q]; exact h⟩
    exact (pi_list ha).run pins s σ H R I t
  | ok d0 S0 =>
    have go : ∀ {R' : V → Hp → Prop}, (∀ v ρ1 H1, Sim k ρ1 S0 H1 → Rep k ρ1 H1 d0 v → At k (Yld k) ρ1 H1 (fun c d H' => W c d σ H') ((fun d => fun (_ : Env) S => match d with
  | .lst xs => Res.ok (.st xs) S
  | .tup xs => .ok (.st xs) S
  | .fls xs => .ok (.st xs) S
  | .ftp xs => .ok (.st xs) S
  | .str z => .ok (.st (signs z)) S
  | .loc l => match S[l]? with
    | some (.lst _) => .ok (.li l) S
    | _ => .bad
  | _ => .bad) d0 e S0) R → R' v H1) → tI k W ma σ H R' := fun {R'} cont =>
      At.bind' sim sr h fun v d ρ1 S1 H1 eq x1 sim1 sr1 r1 h1 => by
        rw [q] at eq; cases eq
        exact cont v ρ1 H1 sim1 r1 h1
    cases d0 with
    | lst xs =>
      refine (pi_list ha).run pins s σ H R I (go fun v ρ1 H1 m r h1 => ?_)
      cases r with
      | @lst p vs _ e n rs =>
        rw [← hK]
        exact ⟨p, rfl, ⟨vs, SqL.of e⟩, h1 _ H1 ρ1 Ext.refl m (yld_list m (fun ρ' H' x => SqL.of (x.keep _ _ e n)) rs fun _ _ _ _ => trivial)⟩
    | fls xs =>
      refine (pi_list ha).run pins s σ H R I (go fun v ρ1 H1 m r h1 => ?_)
      cases r with
      | @fls p vs _ e rs =>
        rw [← hK]
        exact ⟨p, rfl, ⟨vs, e.sq⟩, h1 _ H1 ρ1 Ext.refl m (yld_list m (fun ρ' H' x => (show FzL k.K H' p vs from e.imp (fun ⟨o, z⟩ => ⟨o, x.fz _ _ _ z⟩) id).sq) rs fun _ _ _ _ => trivial)⟩
    | tup xs =>
      refine (pi_tup ha).run pins s σ H R I (go fun v ρ1 H1 m r h1 => ?_)
      cases r with
      | @tup p vs _ e rs =>
        rw [← hK]
        exact ⟨p, rfl, ⟨vs, e⟩, h1 _ H1 ρ1 Ext.refl m (yld_tup m e rs)⟩
    | ftp xs =>
      refine (pi_tup ha).run pins s σ H R I (go fun v ρ1 H1 m r h1 => ?_)
      cases r with
      | @ftp p o vs _ e hd rs =>
        rw [← hK]
        exact ⟨p, rfl, ⟨vs, .inl (.inr ⟨o, e⟩)⟩, h1 _ H1 ρ1 Ext.refl m (yld_tup m (.inl (.inr ⟨o, e⟩)) rs)⟩
    | str z =>
      refine (pi_str ha).run pins s σ H R I (go fun v ρ1 H1 m r h1 => ?_)
      cases r
      exact ⟨z, rfl, h1 _ H1 ρ1 Ext.refl m yld_str⟩
    | loc l =>
      refine (pi_list ha).run pins s σ H R I (go fun v ρ1 H1 m r h1 => ?_)
      cases r with
      | @loc _ p hl =>
        have h2 : At k (Yld k) ρ1 H1 (fun c d H' => W c d σ H') (match S0[l]? with
          | some (.lst _) => Res.ok (.li l) S0
          | _ => .bad) R := h1
        split at h2
        · rename_i xs e
          obtain ⟨vs, e1, rs⟩ := m.at_ l p _ hl e
          rw [← hK]
          exact ⟨p, rfl, ⟨vs, SqL.of e1⟩, h2 _ H1 ρ1 Ext.refl m (yld_loc (S := S0) hl)⟩
        · exact (show False from h2).elim
    | _ => simp only [eSrc, bindE, q] at h; exact (show False from h).elim
/-- range(n), range(a, b) -/
@[reducible] def rngD (lo : Int) (n : Nat) : List D := (List.range n).map fun (i : Nat) => .int (lo + (i : Int))
def rng1 : List D → Option (Int × Nat)
  | [.int j] => if j.natAbs < 100000000 then some (0, j.toNat) else none
  | _ => none
def rng2 : List D → Option (Int × Nat)
  | [.int i, .int j] => if i.natAbs < 100000000 ∧ j.natAbs < 100000000 then some (i, (j - i).toNat) else none
  | _ => none
@[reducible] def eRng (g : List D → Option (Int × Nat)) (m : EM (List D)) : EM Src := bindE m fun ds => fun _ S => match g ds with
  | some (lo, n) => .ok (.st (rngD lo n)) S
  | none => .bad
theorem yld_rng {ρ : Rho} {H : Hp} {lo : Int} {n : Nat} : Yld k ρ H (.st (rngD lo n)) (Itr lo n) where
  go := fun ρ' S' H' i d x _ h => by
    have hi : (rngD lo n)[i]? = some d := by simpa [item] using h
    have := (List.getElem?_eq_some_iff.mp hi).1
    show i < n
    simpa [rngD] using this
  yld := fun ρ' S' H' i d v H2 x _ h y => by
    have hi : (rngD lo n)[i]? = some d := by simpa [item] using h
    have hlt := (List.getElem?_eq_some_iff.mp hi).1
    obtain ⟨rfl, rfl⟩ := y
    have e : (rngD lo n)[i]? = some (.int (lo + (i : Int))) := by
      have hlt' : i < n := by simpa [rngD] using hlt
      simp only [rngD, List.getElem?_map]
      rw [List.getElem?_range hlt']; rfl
    rw [e] at hi; cases hi
    exact ⟨Same.refl _, .int _⟩
  stop := fun ρ' S' H' i x _ h => by
    have hi : (rngD lo n)[i]? = none := by simpa [item] using h
    have := List.getElem?_eq_none_iff.mp hi
    show n ≤ i
    simpa [rngD] using this
theorem c_rng1 {p : Pos} {m : EM (List D)} (hm : X.mg "range" = none) (ha : PA X [a] (tL k W m)) (hg : Gl X "range" := by rfl) (hs : starEach [a] X.env = [(false, eval a X.env)] := by rfl) : PI X tg (.Call (.Name "range" p) [a] [] pos) (tSrc k W (eRng rng1 m)) := by
  refine ⟨fun pins s σ H R I ⟨ρ, S, e, sim, sr, h⟩ => (pi_range1 hg hm ha hs).run pins s σ H R I ?_⟩
  refine At.bind sim sr h fun v d ρ1 S1 H1 x1 sim1 sr1 r1 h1 => ?_
  unfold rng1 at h1
  split at h1
  · rename_i q
    split at q
    · rename_i j
      split at q
      · rename_i hj
        cases q
        cases r1 with | cons ra rb => cases ra; cases rb; exact ⟨j, rfl, by omega, by omega, h1 _ H1 ρ1 Ext.refl sim1 yld_rng⟩
      · cases q
    · cases q
  · exact (show False from h1).elim
theorem c_rng2 {b : Expr} {p : Pos} {m : EM (List D)} (hm : X.mg "range" = none) (ha : PA X [a, b] (tL k W m)) (hg : Gl X "range" := by rfl) (hs : starEach [a, b] X.env = [(false, eval a X.env), (false, eval b X.env)] := by rfl) (hs2 : starEach [b] X.env = [(false, eval b X.env)] := by rfl) :
    PI X tg (.Call (.Name "range" p) [a, b] [] pos) (tSrc k W (eRng rng2 m)) := by
  refine ⟨fun pins s σ H R I ⟨ρ, S, e, sim, sr, h⟩ => (pi_range2 hg hm ha hs hs2).run pins s σ H R I ?_⟩
  refine At.bind sim sr h fun v d ρ1 S1 H1 x1 sim1 sr1 r1 h1 => ?_
  unfold rng2 at h1
  split at h1
  · rename_i q
    split at q
    · rename_i i j
      split at q
      · rename_i hj
        cases q
        cases r1 with | cons ra rb => cases ra; cases rb with | cons rc rd => cases rc; cases rd; exact ⟨_, _, rfl, by omega, h1 _ H1 ρ1 Ext.refl sim1 yld_rng⟩
      · cases q
    · cases q
  · exact (show False from h1).elim
end
end Sh
set_option Elab.async false
set_option linter.all false
set_option maxRecDepth 100000
set_option maxHeartbeats 4000000
namespace Sh
open PySem PySem.Spec PyProof.Rows L2

/-! ### defs -/
@[reducible] def startE (N : Nat) (ds : List D) : Env := ds.map some ++ List.replicate (N - ds.length) none
@[reducible] def finR : RS → Res D
  | .nx _ S => .ok .non S
  | .rt d S => .ok d S
  | .ex x _ S => .ex x S
  | _ => .bad
/-- a def of n parameters and N names -/
def fnM (n N : Nat) (body : SM) : List D → Sto → Res D := fun ds S => if ds.length = n then finR (body (startE N ds) S) else .bad
def spM (k : Cn) (f : List D → Sto → Res D) : Sp := fun vs H Q E => ∃ ρ S ds, Sim k ρ S H ∧ Reps k ρ H ds vs ∧ At k (RpD k) ρ H E (f ds S) Q
theorem spM.len {k : Cn} {n N : Nat} {body : SM} {vs : List V} {H : Hp} {Q : VK} {E : XK} (h : spM k (fnM n N body) vs H Q E) : vs.length = n := by
  obtain ⟨ρ, S, ds, m, r, h⟩ := h
  by_cases hl : ds.length = n
  · rw [← r.length]; exact hl
  · unfold fnM at h; rw [if_neg hl] at h; exact h.elim
theorem SRep.start {k : Cn} {ρ : Rho} {H : Hp} {ds : List D} {vs : List V} (N : List Str) (r : Reps k ρ H ds vs) : SRep k ρ H (startE N.length ds) (L2.start N vs) := by
  have hl := r.length
  refine ⟨by simp [startE, L2.start, hl], fun i d q => ?_⟩
  unfold startE at q
  by_cases hi : i < ds.length
  · rw [List.getElem?_append_left (by simpa using hi), List.getElem?_map] at q
    cases e : ds[i]? with
    | none => rw [e] at q; cases q
    | some d' =>
      rw [e] at q
      have : d' = d := by simpa using q
      subst this
      obtain ⟨v, h1, h2⟩ := r.get e
      refine ⟨v, ?_, h2⟩
      unfold L2.start
      rw [List.getElem?_append_left (by simp; omega), List.getElem?_map, h1]; rfl
  · rw [List.getElem?_append_right (by simpa using hi), List.getElem?_replicate] at q
    split at q <;> cases q
theorem body_read {k : Cn} {n : Nat} {N : List Str} {body : SM} {vs : List V} {H : Hp} {Q : VK} {E : XK} (h : spM k (fnM n N.length body) vs H Q E) :
    ∃ m, tS k (fun c d _ H' => E c d H') m body { nx := fun _ H' => Q .non H', rt := Q } (L2.start N vs) H := by
  obtain ⟨ρ, S, ds, m, r, h⟩ := h
  unfold fnM at h
  by_cases hl : ds.length = n
  · rw [if_pos hl] at h
    refine ⟨ρ.length, ρ, S, _, Nat.le_refl _, m, SRep.start N r, ?_⟩
    cases q : body (startE N.length ds) S with
    | nx e' S' => rw [q] at h; exact fun σ' H' ρ' x s' _ => h _ H' ρ' x s' .non
    | rt d S' => rw [q] at h; exact fun v H' ρ' x s' r' => h v H' ρ' x s' r'
    | ex x e' S' => rw [q] at h; exact fun c d σ' H' ρ' y s' _ r' => h c d H' ρ' y s' r'
    | bad => rw [q] at h; exact h
    | bk e' S' => rw [q] at h; exact (show False from h).elim
    | ct e' S' => rw [q] at h; exact (show False from h).elim
  · rw [if_neg hl] at h; exact h.elim
section
variable {P : Program} {w : World} {K : PySem.W.Frag} {mg : Str → Option Value} {base : Heap} {k : Cn}
theorem fn_ok {x qual : Str} {st : Stmt} {f : Addr} {fd : FuncData} {N ps : List Str} {lv : Nat} {body : SM} (F : L2.Fun K x qual st f fd) (S : FnScope N ps (defScope st))
    (hb : ∀ (cdv : Value) (A : Around) (outer : List PySem.Env) (s : Shared) (H : Hp) (E : XK) (m : Nat), Room lv (A.deeper (envOfC qual (defScope st) s.heap.objs.size f cdv)) →
      PSs (cxOf (L2.CX P w) P w K mg base N qual (defScope st) f cdv A outer s H E) (defBody st) (tS k (fun c d _ H' => E c d H') m body)) :
    FnOk P w K mg base (L2.CX P w) (lv + 1) f fd ps (spM k (fnM ps.length N.length body)) := by
  refine F.okX S (fun vs H Q E h => spM.len h) fun cdv A outer s H vs Q E hr h => ?_
  obtain ⟨m, hm⟩ := body_read h
  exact ⟨_, hb cdv A outer s H E m hr, hm⟩

/-- a def's promise where no text is being made by repr -/
structure FnG (P : Program) (w : World) (K : PySem.W.Frag) (mg : Str → Option Value) (base : Heap) (lv : Nat) (f : Addr) (fd : FuncData) (ps : List Str) (sp : Sp) : Prop where
  len : ∀ vs H Q E, sp vs H Q E → vs.length = ps.length
  run : ∀ (A : Around) (outer : List PySem.Env) (s : Shared) (H : Hp) (args : Args) (us : List Value) (vs : List V) (Q : VK) (E : XK), A.guards = some [] → Room lv A → Env0 P w K mg base A outer s H → BindsTo s fd args (ps.zip us) → Vals vs us → sp vs H Q E →
    codeAny (model P w) A (.call (.ref f) args) (CR (L2.CX P w) outer P w H s Q E) s
theorem FnG.of {lv : Nat} {f : Addr} {fd : FuncData} {ps : List Str} {sp : Sp} (F : FnOk P w K mg base (L2.CX P w) lv f fd ps sp) : FnG P w K mg base lv f fd ps sp := ⟨F.len, fun A outer s H args us vs Q E _ => F.run A outer s H args us vs Q E⟩
theorem fn_okG {x qual : Str} {st : Stmt} {f : Addr} {fd : FuncData} {N ps : List Str} {lv : Nat} {body : SM} (F : L2.Fun K x qual st f fd) (S : FnScope N ps (defScope st))
    (hb : ∀ (cdv : Value) (A : Around) (outer : List PySem.Env) (s : Shared) (H : Hp) (E : XK) (m : Nat), A.guards = some [] → Room lv (A.deeper (envOfC qual (defScope st) s.heap.objs.size f cdv)) →
      PSs (cxOf (L2.CX P w) P w K mg base N qual (defScope st) f cdv A outer s H E) (defBody st) (tS k (fun c d _ H' => E c d H') m body)) :
    FnG P w K mg base (lv + 1) f fd ps (spM k (fnM ps.length N.length body)) := by
  obtain ⟨oc, od, kV, doc, pm, an, cdv, ct, osl, rfl, lk, hcd⟩ := F.ex
  refine ⟨fun vs H Q E h => spM.len h, fun A outer s H args us vs Q E hgu hro en bi rel hs => ?_⟩
  have stays : ∀ b o, base.get? b = some o → s.heap.get? b = some o := fun b o e => (en.bs b o e).1
  have inK : K.In s.heap := en.mod.kin.keeps stays
  have free : s.heap.NoLimit := en.mod.nolimit.keeps stays
  have kinds : ∀ y ∈ ps.zip us, (defScope st).names.lookup y.1 = some .local ∨ ((defScope st).names.lookup y.1 = some .cell ∧ ((cellsFrom (s.heap.objs.size + 1) (defScope st).names []).lookup y.1).isSome = true) := by
    rintro ⟨nm, val⟩ hy
    exact (S.par nm (List.of_mem_zip hy).1).imp id fun z => ⟨z, PySem.W.cellsFrom_some _ _ _ (.inl z)⟩
  have enter := PySem.W.codeRec_of inK hcd
  refine codeAny_call_function hro.depth (inK _ _ lk) rfl S.co S.gen rfl enter (bi _ _ _ _ (wpAny_newFunctionEnv_cells S.kind kinds fun env henv s1 inC => ?_))
  subst henv
  refine ⟨free.keeps inC.toInCall.keep, codeAny_func ?_⟩
  obtain ⟨m, hm⟩ := body_read hs
  have J := inv_start (CX := L2.CX P w) (E := E) S hro.hd en (spM.len hs) rel inC
  refine wpAny_mono ((hb cdv A outer s H E m hgu (hro.deeper _)).run [] s1 (L2.start N vs) H _ J hm) (fun fl s' hf => ?_) fun _ _ hf => hf
  cases fl with
  | next => obtain ⟨_, H', I', q⟩ := hf; exact ⟨.non, H', I'.os, I'.bare, I'.base, I'.hok, rfl, q⟩
  | ret u => obtain ⟨v, _, H', I', rv, q⟩ := hf; exact ⟨v, H', I'.os, I'.bare, I'.base, I'.hok, rv, q⟩
  | brk => obtain ⟨_, _, _, q⟩ := hf; exact q.elim
  | cont => obtain ⟨_, _, _, q⟩ := hf; exact q.elim
end

/-! ### calls of defs -/
@[reducible] def eCall (f : List D → Sto → Res D) (m : EM (List D)) : EM D := bindE m fun ds => fun _ S => f ds S
section
variable {X : Cx} {k : Cn} {W : WX} {a : Expr} {es : List Expr} {x : Str} {p pos : Pos} {fn : List D → Sto → Res D} {m : EM (List D)} {lv : Nat} {f : Addr} {fd : FuncData} {ps : List Str}
theorem call_read {σ : L2.St} {H : Hp} {Q : VK} (h : tI k W (eCall fn m) σ H Q) : tCallS (spM k fn) (WE W) (tL k W m) σ H Q := by
  obtain ⟨ρ, S, e, sim, sr, h⟩ := h
  refine At.bind sim sr h fun v d ρ1 S1 H1 x1 sim1 sr1 r1 h1 => ?_
  exact ⟨ρ1, S1, d, sim1, r1, h1⟩
theorem c_call (F : FnOk X.prog X.w X.K X.mg X.base (L2.CX X.prog X.w) lv f fd ps (spM k fn)) (hr : Room lv X.A) (tk : Takes X W) (hm : X.mg x = some (.ref f)) (hk : PySem.W.keepIn X.K (.ref f) = true) (hb : Binds X.K fd ps []) (ha : PA X (a :: es) (tL k W m))
    (hg : Gl X x := by rfl) (hdb : (x == ("__debug__" : Str)) = false := by decide) (he : starEach (a :: es) X.env = (false, eval a X.env) :: starEach es X.env := by rfl) (hpl : (backTo pos (starEach es X.env)).any (·.1) = false := by rfl) :
    PE X (.Call (.Name x p) (a :: es) [] pos) (tI k W (eCall fn m)) := (pe_callS F hr hg hm hk hb (fun σ => passAt tk σ) ha hdb he hpl).imp fun _ _ _ h => call_read h
theorem runG {pins : List (Addr × Obj)} {σ : L2.St} {H : Hp} {s : Shared} {Q : VK} {us : List Value} {vs : List V} (F : FnG X.prog X.w X.K X.mg X.base lv f fd ps (spM k fn)) (gu : X.A.guards = some []) (hr : Room lv X.A) (hb : Binds X.K fd ps []) (tk : Takes X W)
    (I : Inv X pins σ H s) (r : Vals vs us) (h : spM k fn vs H Q (WE W σ)) : wpAny (model X.prog X.w) X.A (call (.ref f) us) (EP X pins σ Q) X.xe s := by
  have lenU : (us ++ []).length = ps.length := by
    rw [List.append_nil, ← r.length]; exact F.len _ _ _ _ h
  have bnd := hb s us I.kIn lenU
  rw [List.append_nil] at bnd
  refine wpAny_call (codeAny_mono (F.run X.A X.stack s H ⟨us, []⟩ us vs Q _ gu hr I.env0 bnd r h) fun res s' hq => ?_)
  match res, hq with
  | .error e, hq => exact passAt tk σ pins H s e s' I hq
  | .ok (.ret u), hq => exact I.after hq
  | .ok .next, hq => exact False.elim hq
  | .ok .brk, hq => exact False.elim hq
  | .ok .cont, hq => exact False.elim hq
theorem c_callG (F : FnG X.prog X.w X.K X.mg X.base lv f fd ps (spM k fn)) (gu : X.A.guards = some []) (hr : Room lv X.A) (tk : Takes X W) (hm : X.mg x = some (.ref f)) (hk : PySem.W.keepIn X.K (.ref f) = true) (hb : Binds X.K fd ps []) (ha : PA X (a :: es) (tL k W m))
    (hg : Gl X x := by rfl) (hdb : (x == ("__debug__" : Str)) = false := by decide) (he : starEach (a :: es) X.env = (false, eval a X.env) :: starEach es X.env := by rfl) (hpl : (backTo pos (starEach es X.env)).any (·.1) = false := by rfl) :
    PE X (.Call (.Name x p) (a :: es) [] pos) (tI k W (eCall fn m)) := by
  refine ⟨fun pins s σ H Q I h => wpAny_Call_Name_kw (ld_glob I hg hm ?_ hdb)⟩
  refine PySem.W.callWith_K (h₀ := X.base) I.ok.mod.kin hk (thn (ha.run pos pins s σ H _ I (call_read h)) fun us s1 hus => ?_) he hpl
  obtain ⟨vs, H1, J, rv, q⟩ := hus
  exact ⟨J.kIn, runG F gu hr hb tk J rv q⟩
end
end Sh
set_option Elab.async false
set_option linter.all false
set_option maxRecDepth 100000
set_option maxHeartbeats 4000000
namespace Sh
open PySem L2
abbrev W0 : WX := fun _ _ _ _ => False

/-! ### from a construction to a changeable thing -/
section
variable {k : Cn} {ρ ρ' : Rho} {S S' : Sto} {H H' : Hp} {p : Addr}
theorem ExtD.toLoc {o : O} (x : ExtD p ρ ρ' H H') (m : Sim k ρ' S' H') (hp : H p = none) (hh : p ∉ ρ.h) (ho : ∀ z : Ext0 ρ'.length ρ' ⟨ρ'.t ++ [some p], ρ.h⟩ H' H', ORep k ⟨ρ'.t ++ [some p], ρ.h⟩ H' p o) :
    Ext ρ.length ρ ⟨ρ'.t ++ [some p], ρ.h⟩ H H' ∧ Sim k ⟨ρ'.t ++ [some p], ρ.h⟩ (S' ++ [o]) H' := by
  have hlen : ρ'.t.length = S'.length := m.len
  have hmem : p ∈ ρ'.h := by rw [x.hol]; exact List.mem_cons_self
  have np : some p ∉ ρ'.t := (m.raw p hmem).1
  have lv : ∀ a, Live ⟨ρ'.t ++ [some p], ρ.h⟩ a → Live ρ' a := fun a ha => by
    rcases ha with ha | ha
    · rcases List.mem_append.mp ha with z | z
      · exact .inl z
      · have : a = p := by simpa using z
        rw [this]; exact .inr hmem
    · exact .inr (by rw [x.hol]; exact List.mem_cons_of_mem _ ha)
  have z : Ext0 ρ'.length ρ' ⟨ρ'.t ++ [some p], ρ.h⟩ H' H' := ⟨fun l a hl e => by rw [List.getElem?_append_left hl]; exact e, fun _ _ h _ => h, fun _ _ _ h => h, fun a ha => .inl (lv a ha)⟩
  refine ⟨⟨fun l a hl e => ?_, ?_, x.e.keep, x.e.fz, fun a ha => x.e.new a (lv a ha), rfl, x.hk⟩, ⟨?_, fun a ha => ?_, fun l l' a e1 e2 => ?_, fun l o' e hd => ?_, fun l a o' e1 e2 => ?_⟩⟩
  · have := x.len
    rw [List.getElem?_append_left (by simp only [Rho.length] at *; omega)]
    exact x.e.old l a hl e
  · have := x.len
    simp only [Rho.length, List.length_append, List.length_singleton] at *
    omega
  · simp only [Rho.length, List.length_append, List.length_singleton]; omega
  · obtain ⟨h1, u, h2, h3⟩ := m.raw a (by rw [x.hol]; exact List.mem_cons_of_mem _ ha)
    refine ⟨fun q => ?_, u, h2, h3⟩
    rcases List.mem_append.mp q with q | q
    · exact h1 q
    · have : a = p := by simpa using q
      exact hh (by rw [← this]; exact ha)
  · have lt1 : l < ρ'.t.length + 1 := by have := (List.getElem?_eq_some_iff.mp e1).1; simpa using this
    have lt2 : l' < ρ'.t.length + 1 := by have := (List.getElem?_eq_some_iff.mp e2).1; simpa using this
    by_cases h1 : l < ρ'.t.length
    · rw [List.getElem?_append_left h1] at e1
      by_cases h2 : l' < ρ'.t.length
      · rw [List.getElem?_append_left h2] at e2
        exact m.inj l l' a e1 e2
      · rw [List.getElem?_append_right (by omega), show l' - ρ'.t.length = 0 by omega] at e2
        have : p = a := by simpa using e2
        subst this
        exact absurd (mem_rho.mpr ⟨l, e1⟩) np
    · rw [List.getElem?_append_right (by omega), show l - ρ'.t.length = 0 by omega] at e1
      have : p = a := by simpa using e1
      subst this
      by_cases h2 : l' < ρ'.t.length
      · rw [List.getElem?_append_left h2] at e2
        exact absurd (mem_rho.mpr ⟨l', e2⟩) np
      · omega
  · by_cases h1 : l < S'.length
    · rw [List.getElem?_append_left h1] at e
      obtain ⟨a, ha⟩ := m.ob l o' e hd
      exact ⟨a, by rw [List.getElem?_append_left (by rw [hlen]; exact h1)]; exact ha⟩
    · have lt : l < S'.length + 1 := by have := (List.getElem?_eq_some_iff.mp e).1; simpa using this
      exact ⟨p, by rw [List.getElem?_append_right (by rw [hlen]; omega), show l - ρ'.t.length = 0 by rw [hlen]; omega]; rfl⟩
  · by_cases h1 : l < S'.length
    · rw [List.getElem?_append_left h1] at e2
      rw [List.getElem?_append_left (by rw [hlen]; exact h1)] at e1
      exact (m.at_ l a o' e1 e2).ext0 m z rfl
    · have lt : l < S'.length + 1 := by have := (List.getElem?_eq_some_iff.mp e2).1; simpa using this
      rw [List.getElem?_append_right (by omega), show l - S'.length = 0 by omega] at e2
      rw [List.getElem?_append_right (by rw [hlen]; omega), show l - ρ'.t.length = 0 by rw [hlen]; omega] at e1
      have ea : p = a := by simpa using e1
      have eo : o = o' := by simpa using e2
      subst ea eo
      exact ho z
theorem loc_last {t : List (Option Addr)} {h : List Addr} (e : t.length = S'.length) : Rep k ⟨t ++ [some p], h⟩ H' (.loc S'.length) (.ref p) := by
  refine .loc ?_
  rw [← e, List.getElem?_append_right (Nat.le_refl _), Nat.sub_self]; rfl
end

/-! ### a comprehension whose list will be changed -/
@[reducible] def eLcN (own : List Nat) (m : EM Src) (b : D → Env → Option Env) (t : EM Bool) (el : EM D) : EM D := bindE m fun src => fun e S => if fuelOf src ≤ 200000 then (match lcF b t el (wipeE e own) (fuelOf src) src 0 S with
  | .ok ys S' => .ok (.loc S'.length) (S' ++ [.lst ys])
  | _ => .bad) else .bad
section
variable {X : Cx} {k : Cn} {W : WX} {tg iter elt : Expr} {ifs : List Expr} {scope : Scope} {pos : Pos} {m : EM Src} {b : D → Env → Option Env} {t : EM Bool} {el : EM D} {ga : TG}
theorem lcN_read {own ws : List Nat} {σ : L2.St} {H : Hp} {Q : VK} (hg : TgOk k.K ga b ws) (hw : ∀ j ∈ ws, j ∈ own) (h : tI k W (eLcN own m b t el) σ H Q) : tLc (tSrc k W m) ga (tT k W0 t) (tI k W0 el) own σ H Q := by
  obtain ⟨ρ, S, e, sim, sr, h⟩ := h
  refine At.bind sim sr h fun J src ρ1 S1 H1 x1 sim1 sr1 yl h1 => ?_
  intro C hD
  by_cases hf : fuelOf src ≤ 200000
  · rw [if_pos hf] at h1
    cases hall : lcF b t el (wipeE e own) (fuelOf src) src 0 S1 with
    | bad => rw [hall] at h1; exact (show False from h1).elim
    | ex y S2 => rw [hall] at h1; exact (show False from h1).elim
    | ok all Sz =>
      rw [hall] at h1
      refine lc_turns hg hw sim1 sr1 yl hD hf hall fun ρ' H' vs x m hv rs => ?_
      have hh : C ∉ ρ1.h := fun z => by
        obtain ⟨_, w, hw', _⟩ := sim1.raw C z
        rw [hD] at hw'; cases hw'
      obtain ⟨x2, m2⟩ := x.toLoc (o := .lst all) m hD hh fun z => ⟨vs, hv, rs.ext0 m z⟩
      exact h1 _ H' _ x2 m2 (loc_last m.len)
  · rw [if_neg hf] at h1; exact h1.elim
theorem c_lcN {own : List (Str × Nat)} {ws : List Nat} (hc : X.calm = true) (hN : X.N.Nodup) (hi : PI X tg iter (tSrc k W m)) (ok : BlkOk X.N X.env.scope scope own)
    (hg : ∀ (s : Shared) (H : Hp) (C : Addr) (cl : List (Str × Addr)) (fp : List Addr), PG (X.blk s H scope (compEnvC scope cl C X.env) fp) tg ga) (htg : TgOk k.K ga b ws)
    (ht : ∀ (s : Shared) (H : Hp) (C : Addr) (cl : List (Str × Addr)) (fp : List Addr), PTs (X.blk s H scope (compEnvC scope cl C X.env) fp) ifs (tT k W0 t))
    (he : ∀ (s : Shared) (H : Hp) (C : Addr) (cl : List (Str × Addr)) (fp : List Addr), PE (X.blk s H scope (compEnvC scope cl C X.env) fp) elt (tI k W0 el))
    (hw : ∀ j ∈ ws, j ∈ own.map (·.2) := by decide) (hs : ∀ x, foldedSetIterable iter X.env x = pure x := by intro _; rfl) :
    PE X (.ListComp elt [⟨tg, iter, ifs, 0⟩] scope pos) (tI k W (eLcN (own.map (·.2)) m b t el)) := (pe_lc hc hN hi ok hg ht he hs).imp fun _ _ _ h => lcN_read htg hw h
end

/-! ### dicts: displays -/
def putD (kvs : List (Key × D)) (x : Key) (d : D) : List (Key × D) := if (kvs.any fun kv => decide (kv.1 = x)) = true then kvs.map (fun kv => if kv.1 = x then (kv.1, d) else kv) else kvs ++ [(x, d)]
def mergeD (kvs more : List (Key × D)) : List (Key × D) := more.foldl (fun acc kv => putD acc kv.1 kv.2) kvs
def dropD (kvs : List (Key × D)) (x : Key) : List (Key × D) := kvs.filter fun kv => decide (kv.1 ≠ x)
section
variable {k : Cn} {ρ : Rho} {H : Hp}
theorem RepK.any {x : Key} : ∀ {kvs : List (Key × D)} {ws : List (Key × V)}, RepK k ρ H kvs ws → (kvs.any fun kv => decide (kv.1 = x)) = ws.any fun kv => decide (kv.1 = x)
  | _, _, .nil => rfl
  | _, _, .cons r t => by simp only [List.any_cons, RepK.any t]
theorem RepK.append : ∀ {kvs ls : List (Key × D)} {ws us : List (Key × V)}, RepK k ρ H kvs ws → RepK k ρ H ls us → RepK k ρ H (kvs ++ ls) (ws ++ us)
  | _, _, _, _, .nil, h => h
  | _, _, _, _, .cons r t, h => .cons r (RepK.append t h)
theorem RepK.repl {x : Key} {d : D} {v : V} (q : Rep k ρ H d v) : ∀ {kvs : List (Key × D)} {ws : List (Key × V)}, RepK k ρ H kvs ws → RepK k ρ H (kvs.map fun kv => if kv.1 = x then (kv.1, d) else kv) (ws.map fun kv => if kv.1 = x then (kv.1, v) else kv)
  | _, _, .nil => .nil
  | _, _, .cons (x := y) r t => by
    simp only [List.map_cons]
    by_cases e : y = x
    · rw [if_pos e, if_pos e]; exact .cons q (RepK.repl q t)
    · rw [if_neg e, if_neg e]; exact .cons r (RepK.repl q t)
theorem RepK.put {x : Key} {d : D} {v : V} {kvs : List (Key × D)} {ws : List (Key × V)} (r : RepK k ρ H kvs ws) (q : Rep k ρ H d v) : RepK k ρ H (putD kvs x d) (putK ws x v) := by
  unfold putD putK
  rw [r.any]
  split
  · exact r.repl q
  · exact r.append (.cons q .nil)
theorem RepK.drop {x : Key} : ∀ {kvs : List (Key × D)} {ws : List (Key × V)}, RepK k ρ H kvs ws → RepK k ρ H (dropD kvs x) (dropK ws x)
  | _, _, .nil => .nil
  | _, _, .cons (x := y) (v := v) r t => by
    unfold dropD dropK
    by_cases e : y = x
    · rw [List.filter_cons_of_neg (by simp [e]), List.filter_cons_of_neg (by simp [e])]; exact RepK.drop t
    · rw [List.filter_cons_of_pos (by simp [e]), List.filter_cons_of_pos (by simp [e])]; exact .cons r (RepK.drop t)
theorem RepK.merge : ∀ {more : List (Key × D)} {us : List (Key × V)} {kvs : List (Key × D)} {ws : List (Key × V)}, RepK k ρ H more us → RepK k ρ H kvs ws → RepK k ρ H (mergeD kvs more) (mergeK ws us)
  | _, _, _, _, .nil, h => h
  | _, _, _, _, .cons (x := y) r t, h => by
    have q := RepK.merge t (h.put (x := y) r)
    exact q
end
/-- pairs of values -/
inductive RpPs (k : Cn) : Rho → Hp → List (Key × D) → List (V × V) → Prop
  | nil {ρ : Rho} {H : Hp} : RpPs k ρ H [] []
  | cons {ρ : Rho} {H : Hp} {x : Key} {d : D} {v : V} {ds : List (Key × D)} {vs : List (V × V)} : Rep k ρ H d v → RpPs k ρ H ds vs → RpPs k ρ H ((x, d) :: ds) ((kV x, v) :: vs)
theorem RpPs.repK {k : Cn} {ρ : Rho} {H : Hp} : ∀ {ds : List (Key × D)} {vs : List (V × V)}, RpPs k ρ H ds vs → ∃ kvs, vs = kvs.map (fun kv => (kV kv.1, kv.2)) ∧ RepK k ρ H ds kvs
  | _, _, .nil => ⟨[], rfl, .nil⟩
  | _, _, .cons (x := x) (v := v) r t => by
    obtain ⟨kvs, e, h⟩ := RpPs.repK t
    exact ⟨(x, v) :: kvs, by rw [e]; rfl, .cons r h⟩
theorem RpPs.ext {k : Cn} {ρ ρ' : Rho} {S : Sto} {H H' : Hp} (m : Sim k ρ S H) (e : Ext ρ.length ρ ρ' H H') : ∀ {ds : List (Key × D)} {vs : List (V × V)}, RpPs k ρ H ds vs → RpPs k ρ' H' ds vs
  | _, _, .nil => .nil
  | _, _, .cons r t => .cons (r.ext m e) (RpPs.ext m e t)
abbrev tP (k : Cn) (m : EM (List (Key × D))) : L2.St → Hp → (List (V × V) → Hp → Prop) → Prop := tR k (RpPs k) W0 m
structure PPM (X : Cx) (k : Cn) (pos : Pos) (keys : List (Option Expr)) (values : List Expr) (m : EM (List (Key × D))) : Prop where
  ex : ∃ trs, PPs X pos keys values trs ∧ ∀ σ H Q, tP k m σ H Q → tPairs trs σ H Q
@[reducible] def ePNil : EM (List (Key × D)) := fun _ S => .ok [] S
@[reducible] def ePCons (mk mv : EM D) (r : EM (List (Key × D))) : EM (List (Key × D)) := bindE mk fun x => bindE mv fun d => bindE r fun ps => fun _ S => match toKey x with
  | some key => .ok ((key, d) :: ps) S
  | none => .bad
section
variable {X : Cx} {k : Cn} {W : WX} {pos : Pos} {keys : List (Option Expr)} {values : List Expr} {m : EM (List (Key × D))}
theorem d_nil : PPM X k pos [] [] ePNil := ⟨[], pps_nil, fun σ H Q ⟨ρ, S, e, sim, sr, h⟩ => h [] H ρ Ext.refl sim .nil⟩
theorem Rep.key {ρ : Rho} {H : Hp} {d : D} {v : V} {x : Key} (r : Rep k ρ H d v) (h : toKey d = some x) : v = kV x := RR.key (.st r) h
theorem d_cons {a b : Expr} {mk mv : EM D} (hk : PE X a (tI k W0 mk)) (hv : PE X b (tI k W0 mv)) (hr : PPM X k pos keys values m) : PPM X k pos (some a :: keys) (b :: values) (ePCons mk mv m) := by
  obtain ⟨trs, h1, h2⟩ := hr.ex
  refine ⟨_, pps_cons hk hv h1, fun σ H Q ⟨ρ, S, e, sim, sr, h⟩ => ?_⟩
  refine At.bind sim sr h fun v1 d1 ρ1 S1 H1 x1 sim1 sr1 r1 h3 => ?_
  refine At.bind sim1 sr1 h3 fun v2 d2 ρ2 S2 H2 x2 sim2 sr2 r2 h4 => ?_
  refine h2 _ _ _ (At.bind sim2 sr2 h4 fun v3 d3 ρ3 S3 H3 x3 sim3 sr3 r3 h5 => ?_)
  split at h5
  · rename_i key q
    have r1' := (r1.ext sim1 x2).ext sim2 x3
    have ek := r1'.key q
    subst ek
    exact h5 _ H3 ρ3 Ext.refl sim3 (.cons (r2.ext sim2 x3) r3)
  · exact (show False from h5).elim
@[reducible] def eDic (m : EM (List (Key × D))) : EM D := fun e S => match m e S with
  | .ok ps S' => if ps.length ≤ 15 then .ok (.dic (mergeD [] ps)) S' else .bad
  | _ => .bad
@[reducible] def eDicN (m : EM (List (Key × D))) : EM D := fun e S => match m e S with
  | .ok ps S' => if ps.length ≤ 15 then .ok (.loc S'.length) (S' ++ [.dic (mergeD [] ps)]) else .bad
  | _ => .bad
theorem disp_read {σ : L2.St} {H : Hp} {Q : VK} {trs : List (TE × TE)} {ρ : Rho} {S S' : Sto} {e : Env} {ps : List (Key × D)} (ht : ∀ σ H Q, tP k m σ H Q → tPairs trs σ H Q) (sim : Sim k ρ S H) (sr : SRep k ρ H e σ) (hm : m e S = .ok ps S') (hl : ps.length ≤ 15)
    (fin : ∀ p ρ' H' ws, H p = none → p ∉ ρ.h → ExtD p ρ ρ' H H' → Sim k ρ' S' H' → H' p = some (.dK ws) → RepK k ρ' H' (mergeD [] ps) ws → Q (.ref p) H') : tDisp trs σ H Q := by
  intro p hp
  have hh : p ∉ ρ.h := fun z => by
    obtain ⟨_, w, hw', _⟩ := sim.raw p z
    rw [hp] at hw'; cases hw'
  obtain ⟨x, m0⟩ := ExtD.start (u := .dK []) sim hp (.inr ⟨_, rfl⟩)
  refine ht _ _ _ ⟨ρ.hole p, S, e, m0, sr.ext0 sim x.e, ?_⟩
  rw [hm]
  intro vs H2 ρ2 x2 sim2 r2
  have hmem : p ∈ (ρ.hole p).h := List.mem_cons_self
  have e2 : H2 p = some (.dK []) := by rw [x2.hk p hmem]; exact upd_same
  obtain ⟨kvs, rfl, rk⟩ := r2.repK
  refine ⟨e2, kvs, rfl, by rw [← rk.length]; exact hl, ?_⟩
  have xx := x.more x2
  have hm2 : p ∈ ρ2.h := by rw [xx.hol]; exact List.mem_cons_self
  obtain ⟨xw, simw⟩ := hole_write (u := .dK (mergeK [] kvs)) sim2 hm2 (.inr ⟨_, rfl⟩)
  exact fin p ρ2 _ _ hp hh (xx.write sim hp) simw upd_same ((RepK.merge rk .nil).ext0 sim2 xw)
theorem c_dic (h : PPM X k pos keys values m) (hall : keys.all (·.isSome) = true := by rfl) (hl : keys.length = values.length := by rfl) (h0 : keys ≠ [] := by exact fun z => by cases z) (h15 : keys.length ≤ 15 := by decide) : PE X (.Dict keys values pos) (tI k W (eDic m)) := by
  obtain ⟨trs, h1, h2⟩ := h.ex
  refine (pe_disp h1 hall hl h0 h15).imp fun σ H Q ⟨ρ, S, e, sim, sr, h⟩ => ?_
  simp only [eDic] at h
  split at h
  · rename_i ps S' q
    split at h
    · rename_i hl
      refine disp_read h2 sim sr q hl fun p ρ' H' ws hp hh x m' e' rk => ?_
      rcases x.done m' hp with ⟨x2, m2, z, nl⟩ | hb
      · exact h _ H' _ x2 m2 (.dic e' nl (rk.ext0 m' z))
      · exact absurd hb hh
    · exact (show False from h).elim
  · exact (show False from h).elim
theorem c_dicN (h : PPM X k pos keys values m) (hall : keys.all (·.isSome) = true := by rfl) (hl : keys.length = values.length := by rfl) (h0 : keys ≠ [] := by exact fun z => by cases z) (h15 : keys.length ≤ 15 := by decide) : PE X (.Dict keys values pos) (tI k W (eDicN m)) := by
  obtain ⟨trs, h1, h2⟩ := h.ex
  refine (pe_disp h1 hall hl h0 h15).imp fun σ H Q ⟨ρ, S, e, sim, sr, h⟩ => ?_
  simp only [eDicN] at h
  split at h
  · rename_i ps S' q
    split at h
    · rename_i hl
      refine disp_read h2 sim sr q hl fun p ρ' H' ws hp hh x m' e' rk => ?_
      obtain ⟨x2, m2⟩ := x.toLoc (o := .dic (mergeD [] ps)) m' hp hh fun z => ⟨ws, e', rk.ext0 m' z⟩
      exact h _ H' _ x2 m2 (loc_last m'.len)
    · exact (show False from h).elim
  · exact (show False from h).elim
/-- {} -/
theorem c_dic0 : PE X (.Dict [] [] pos) (tI k W (eC (.dic []))) := pe_dnewK.imp fun σ H Q ⟨ρ, S, e, sim, sr, h⟩ => fun p hp => h _ _ ρ (Ext.same sim (same_new hp)) (sim.same (same_new hp)) (Rep.newD sim hp .nil)
theorem c_dic0N : PE X (.Dict [] [] pos) (tI k W fun _ S => .ok (.loc S.length) (S ++ [.dic []])) := pe_dnewK.imp fun σ H Q ⟨ρ, S, e, sim, sr, h⟩ => fun p hp => by
  obtain ⟨x, m⟩ := sim.alloc (o := .dic []) (u := .dK []) hp ⟨[], upd_same, .nil⟩
  exact h _ _ _ x m (.loc (rho_last sim))
end

/-! ### stores into changeable lists and dicts -/
def stIx (S : Sto) (e : Env) (o i d : D) : RS := match o with
  | .loc l => match S[l]? with
    | some (.lst xs) => match i with
      | .int j => match ixN xs.length j with
        | some n => .nx e (S.set l (.lst (xs.set n d)))
        | none => .bad
      | _ => .bad
    | some (.dic kvs) => match toKey i with
      | some key => if kvs.length < cap then .nx e (S.set l (.dic (putD kvs key d))) else .bad
      | none => .bad
    | _ => .bad
  | _ => .bad
@[reducible] def gSubM (mo mi : EM D) : D → SM := fun d => sBind mo fun o => sBind mi fun i => fun e S => stIx S e o i d
section
variable {X : Cx} {k : Cn} {W : WX} {n : Nat} {o i : Expr} {pos : Pos} {mo mi : EM D}
theorem Sim.setL {ρ : Rho} {S : Sto} {H : Hp} {l : Nat} {a : Addr} {xs : List D} {vs : List V} (m : Sim k ρ S H) (ha : ρ.t[l]? = some (some a)) (nf : ∀ o w, H a ≠ some (.frz o w)) (r : Reps k ρ H xs vs) : Ext ρ.length ρ ρ H (upd H a (.lst vs)) ∧ Sim k ρ (S.set l (.lst xs)) (upd H a (.lst vs)) :=
  m.write ha nf fun x => ⟨vs, upd_same, r.ext m x⟩
theorem Sim.setD {ρ : Rho} {S : Sto} {H : Hp} {l : Nat} {a : Addr} {xs : List (Key × D)} {vs : List (Key × V)} (m : Sim k ρ S H) (ha : ρ.t[l]? = some (some a)) (nf : ∀ o w, H a ≠ some (.frz o w)) (r : RepK k ρ H xs vs) : Ext ρ.length ρ ρ H (upd H a (.dK vs)) ∧ Sim k ρ (S.set l (.dic xs)) (upd H a (.dK vs)) :=
  m.write ha nf fun x => ⟨vs, upd_same, r.ext m x⟩
/-- o[i] = v by values -/
def rStIx (k : Cn) : TSet := fun o i v H Q => ∃ ρ S e do_ di d e' S', Sim k ρ S H ∧ Rep k ρ H do_ o ∧ Rep k ρ H di i ∧ Rep k ρ H d v ∧ stIx S e do_ di d = .nx e' S' ∧ ∀ H' , Ext ρ.length ρ ρ H H' → Sim k ρ S' H' → Q H'
theorem set_ix (hu : X.A.units + 1 < cLine) : PSet X (rStIx k) := by
  intro pins s σ H o i v ov iv u Q I ro ri rv ⟨ρ, S, e, do_, di, d, e', S', m, r1, r2, r3, hst, q⟩
  unfold stIx at hst
  split at hst
  · rename_i l
    cases r1 with
    | @loc _ a hl =>
      split at hst
      · rename_i xs hS
        obtain ⟨vs, e1, rs⟩ := m.at_ l a _ hl hS
        split at hst
        · split at hst
          · rename_i nn hj
            cases hst
            cases r2
            obtain ⟨x, m'⟩ := m.setL hl (fun _ _ z => by rw [e1] at z; cases z) (Reps.set (ds := xs) (vs := vs) r3 nn rs)
            exact set_list pins s σ H _ _ v ov iv u Q I ro ri rv ⟨a, vs, _, nn, rfl, rfl, e1, by rw [← rs.length]; assumption, q _ x m'⟩
          · cases hst
        · cases hst
      · rename_i kvs hS
        obtain ⟨ws, e1, rs⟩ := m.at_ l a _ hl hS
        split at hst
        · rename_i key hk
          split at hst
          · rename_i hc
            cases hst
            have ek := r2.key hk
            subst ek
            obtain rfl : ov = Value.ref a := ro
            obtain ⟨x, m'⟩ := m.setD hl (fun _ _ z => by rw [e1] at z; cases z) (rs.put (x := key) r3)
            exact d_setItem hu I (DPut.k e1 (by rw [← rs.length]; exact Nat.lt_of_lt_of_le hc (by decide))) ri rv fun s' I' => ⟨_, I', q _ x m'⟩
          · cases hst
        · cases hst
      · cases hst
  · cases hst
theorem g_sub (hu : X.A.units + 1 < cLine) (ho : PE X o (tI k W mo)) (hi : PE X i (tI k W mi)) (ha : ∀ v, assign (.Subscript o i pos) X.env v = (do
      let ov ← holding [v] (eval o X.env)
      let iv ← holding [v, ov] (eval i X.env)
      standAt pos
      holding [v, ov, iv] (setItem ov iv v)
      release [v, ov, iv] []) := by intro _; rfl) : PG X (.Subscript o i pos) (tG k W n (gSubM mo mi)) :=
  (pg_sub ho hi (set_ix (k := k) hu) ha).imp fun v σ H Q ⟨ρ, S, e, d, hn, sim, sr, r, h⟩ => by
  refine AtS.bind hn sim sr h fun v1 d1 ρ1 S1 H1 hn1 x1 sim1 sr1 r1 h1 => ?_
  refine AtS.bind hn1 sim1 sr1 h1 fun v2 d2 ρ2 S2 H2 hn2 x2 sim2 sr2 r2 h2 => ?_
  have r' := (r.ext sim x1).ext sim1 x2
  cases hq : stIx S2 e d1 d2 d with
  | nx e' S' =>
    rw [hq] at h2
    refine ⟨ρ2, S2, e, d1, d2, d, e', S', sim2, r1.ext sim1 x2, r2, r', hq, fun H' x m' => ?_⟩
    have ee : e' = e := by
      unfold stIx at hq
      repeat' split at hq
      all_goals first | (cases hq; rfl) | cases hq
    subst ee
    exact h2 σ H' ρ2 x m' (sr2.ext sim2 x)
  | bad => rw [hq] at h2; exact h2.elim
  | rt _ _ => rw [hq] at h2; unfold stIx at hq; (repeat' split at hq) <;> cases hq
  | bk _ _ => rw [hq] at h2; unfold stIx at hq; (repeat' split at hq) <;> cases hq
  | ct _ _ => rw [hq] at h2; unfold stIx at hq; (repeat' split at hq) <;> cases hq
  | ex _ _ _ => unfold stIx at hq; (repeat' split at hq) <;> cases hq
/-- xs.append(e) -/
@[reducible] def eApp (mo ma : EM D) : EM D := bindE mo fun o => fun e S => match o with
  | .loc l => match S[l]? with
    | some (.lst _) => bindE ma (fun d _ S => match S[l]? with
      | some (.lst xs) => if xs.length < cap then .ok .non (S.set l (.lst (xs ++ [d]))) else .bad
      | _ => .bad) e S
    | _ => .bad
  | _ => .bad
theorem c_app {a : Expr} {ma : EM D} {apos cpos : Pos} (ho : PE X o (tI k W mo)) (ha : PE X a (tI k W ma)) (hbase : attributeBase o "append" X.env (eval o X.env) = eval o X.env := by rfl)
    (hfew : ((backTo cpos (starEach [a] X.env)).all (fun x => !x.1) && (backToKw cpos (keywordEach [] X.env)).all (fun x => x.1.isSome) && decide ([a].length + ([] : List Keyword).length + (if ([] : List Keyword).isEmpty then 0 else 1) < 30)) = true := by rfl)
    (hline : (apos.endLine == cpos.line) = true := by rfl) (hs : starEach [a] X.env = (false, eval a X.env) :: starEach [] X.env := by rfl) (hplain : (backTo cpos (starEach [] X.env)).any (·.1) = false := by rfl) :
    PE X (.Call (.Attribute o "append" apos) [a] [] cpos) (tI k W (eApp mo ma)) :=
  (pe_bm PySem.F.plainAttrs_list PySem.F.slot_list_append PySem.F.type_list_append mt_append ho (pa_cons ha pa_nil hs) hbase hfew hline hs hplain).imp fun σ H Q ⟨ρ, S, e, sim, sr, h⟩ => by
  refine At.bind sim sr h fun v1 d1 ρ1 S1 H1 x1 sim1 sr1 r1 h1 => ?_
  cases r1 with
  | @loc l p hl =>
    cases q : S1[l]? with
    | none => simp only [q] at h1; exact (show False from h1).elim
    | some ob =>
      simp only [q] at h1
      cases ob with
      | lst ys =>
        obtain ⟨vs1, e1, _⟩ := sim1.at_ l p _ hl q
        refine ⟨.inl ⟨rfl, vs1, SqL.of e1⟩, At.bind sim1 sr1 h1 fun v2 d2 ρ2 S2 H2 x2 sim2 sr2 r2 h2 => ?_⟩
        have hl2 := x2.old l p (List.getElem?_eq_some_iff.mp hl).1 hl
        cases q2 : S2[l]? with
        | none => simp only [q2] at h2; exact (show False from h2).elim
        | some ob2 =>
          simp only [q2] at h2
          cases ob2 with
          | lst xs =>
            obtain ⟨vs, e2, rs⟩ := sim2.at_ l p _ hl2 q2
            simp only at h2
            by_cases hc : xs.length < cap
            · rw [if_pos hc] at h2
              obtain ⟨x, m'⟩ := sim2.setL hl2 (fun _ _ z => by rw [e2] at z; cases z) (rs.append (.cons r2 .nil))
              exact ⟨p, vs, v2, rfl, rfl, e2, by rw [← rs.length]; exact Nat.lt_of_lt_of_le hc (by decide), h2 _ _ ρ2 x m' .non⟩
            · rw [if_neg hc] at h2; exact h2.elim
          | _ => exact (show False from h2).elim
      | _ => exact (show False from h1).elim
  | _ => exact (show False from h1).elim
end
end Sh
set_option Elab.async false
set_option linter.all false
set_option maxRecDepth 100000
set_option maxHeartbeats 4000000
namespace Sh
open PySem PySem.Spec PyProof.Rows L2

/-! ### the end of a law -/
section
variable {P : Program} {w : World} {k : Cn} {mg mb : Str → Option Value} {lv : Nat} {fa a : Addr} {fd : FuncData} {x : Str} {fn : List D → Sto → Res D} {s₁ : Shared} {vs : List Value} {ns : List Int}
/-- nothing is tracked but, perhaps, the script -/
def scr (K : PySem.W.Frag) (a : Addr) (ob : Obj) (ns : List Int) : Hp := fun b => match K.lookup a with
  | some _ => none
  | none => if b = a then some (.frz ob (.lst (ns.map V.int))) else none
theorem scr_some {K : PySem.W.Frag} {a b : Addr} {ob : Obj} {ns : List Int} {u : HO} (h : scr K a ob ns b = some u) : K.lookup a = none ∧ b = a ∧ u = .frz ob (.lst (ns.map V.int)) := by
  unfold scr at h
  split at h
  · cases h
  · rename_i q
    split at h
    · rename_i e; cases h; exact ⟨q, e, rfl⟩
    · cases h
theorem reps_ints {ρ : Rho} {H : Hp} : ∀ ns : List Int, Reps k ρ H (ns.map D.int) (ns.map V.int)
  | [] => .nil
  | n :: ns => .cons (.int n) (reps_ints ns)
theorem lawG (KX : k.K.In s₁.heap) (nsG : s₁.heap.Ns mainGlobals mg) (nsB : s₁.heap.Ns builtinsNs mb) (isB : ∀ x : Str, x ≠ "__name__" → mb x = bootBuiltins x) (lim : s₁.heap.NoLimit) (gens : s₁.gens = #[])
    (ob : s₁.heap.get? a = some { cls := .type "list", data := .seq vs.toArray }) (are : IntsAre vs ns) (sz : ns.length ≤ sizeLine) (hr : Room lv callerA)
    (F : ∀ base : Heap, k.K.In base → base.Ns mainGlobals mg → FnG P w k.K mg base lv fa fd [x] (spM k fn)) (bnd : ∀ (s : Shared) (u : Value), BindsTo s fd ⟨[u], []⟩ [(x, u)])
    (law : ∃ S', fn [.fls (ns.map .int)] [] = .ok (.bl true) S') :
    codeAny (model P w) callerA (.call (.ref fa) ⟨[.ref a], []⟩) (fun r s' => r = .ok (.ret (.bool true)) ∧ OldK s₁.heap s'.heap ∧ s'.os = s₁.os ∧ AllBare s'.gens) s₁ := by
  have rel := vals_ints are
  have lenV := are.length
  generalize hob : ({ cls := .type "list", data := .seq vs.toArray } : Obj) = o at ob
  have fz : FzL k.K (scr k.K a o ns) a (ns.map V.int) := by
    cases q : k.K.lookup a with
    | none => exact .inl ⟨o, by unfold scr; rw [q]; exact if_pos rfl⟩
    | some o' =>
      have e := KX a o' q
      rw [ob] at e; cases e
      refine .inr ⟨o, vs.toArray, _, q, by rw [← hob], by rw [← hob], by rw [← hob], by rw [List.size_toArray, lenV]; exact sz, by simpa using rel⟩
  have hok : HOk P w (scr k.K a o ns) s₁.heap := fun b u h => by
    obtain ⟨_, rfl, rfl⟩ := scr_some h
    exact ⟨ob, by rw [List.length_map]; exact sz, vs, _, rel, by rw [ob, ← hob]⟩
  have out : ∀ {b : Addr} {q : Obj}, s₁.heap.get? b = some q → (∀ u, scr k.K a o ns b = some u → False) → (hidT s₁.heap (scr k.K a o ns)).get? b = some q := fun {b q} e h => hidT_get e (by
    cases z : scr k.K a o ns b with
    | none => rfl
    | some u => exact (h u z).elim)
  have keepN : ∀ {b : Addr} {m : Str → Option Value}, s₁.heap.Ns b m → (hidT s₁.heap (scr k.K a o ns)).Ns b m := fun {b m} ⟨q, es, ep, e, d, r⟩ => ⟨q, es, ep, out e (fun u z => by
    obtain ⟨_, rfl, _⟩ := scr_some z
    rw [ob] at e; cases e
    rw [← hob] at d; cases d), d, r⟩
  have inK : k.K.In (hidT s₁.heap (scr k.K a o ns)) := fun b q e => out (KX b q e) fun u z => by
    obtain ⟨z1, rfl, _⟩ := scr_some z
    rw [z1] at e; cases e
  have md : L2.Mod k.K mg (hidT s₁.heap (scr k.K a o ns)) := ⟨inK, keepN nsG, ⟨mb, keepN nsB, isB⟩, let ⟨mc, h1, h2⟩ := lim; ⟨mc, keepN h1, h2⟩⟩
  have env : Env0 P w k.K mg (hidT s₁.heap (scr k.K a o ns)) callerA [] s₁ (scr k.K a o ns) :=
    { frames := rfl, mod := md, bs := fun b q e => of_hidT e, bsz := Nat.le_of_eq (hidT_size _ _), funs := trivial, frf := fun b z => (nomatch z), hok := hok, bare := .of_eq gens }
  obtain ⟨S', hS⟩ := law
  have sim : Sim k ⟨[], []⟩ [] (scr k.K a o ns) := ⟨rfl, fun _ z => (nomatch z), fun l l' c h => by simp at h, fun l q h => by simp at h, fun l c q h => by simp at h⟩
  have sp : spM k fn [.ref a] (scr k.K a o ns) (fun v _ => v = .bl true) (fun _ _ _ => False) := ⟨⟨[], []⟩, [], [.fls (ns.map .int)], sim, .cons (.fls fz (reps_ints ns)) .nil, by
    rw [hS]
    intro v H' ρ' _ _ r
    cases r; rfl⟩
  refine codeAny_mono ((F _ inK (keepN nsG)).run callerA [] s₁ _ ⟨[.ref a], []⟩ [.ref a] [.ref a] _ _ rfl hr env (bnd s₁ (.ref a)) (.cons rfl .nil) sp) fun r s' h => ?_
  match r, h with
  | .error e, h =>
    obtain ⟨_, _, _, _, _, _, _, _, _, _, _, _, z⟩ := (show L2.CX P w [] _ s₁ (fun _ _ _ => False) e s' from h)
    exact z.elim
  | .ok .next, h => exact h.elim
  | .ok .brk, h => exact h.elim
  | .ok .cont, h => exact h.elim
  | .ok (.ret u), h =>
    obtain ⟨v, H', os, bare, un, hok', rv, q⟩ := h
    obtain rfl : v = .bl true := q
    obtain rfl : u = Value.bool true := rv
    refine ⟨rfl, OldK.of_keep fun b q e => ?_, os, bare⟩
    cases z : scr k.K a o ns b with
    | none => exact un.keep b q e z (fun n => (nomatch n)) (fun n => (nomatch n))
    | some u =>
      obtain ⟨_, rfl, rfl⟩ := scr_some z
      obtain ⟨e2, _⟩ := hok' _ _ (un.frzs _ _ _ z)
      rw [ob] at e; cases e
      exact e2
end
theorem walkG {l : PySem.W.OpenLaw} {n lv : Nat} {q : Program} {loose : List Str} {XP : (Str → Option Value) → Heap → Prop} {YP : World → Heap → Prop} {d : DefRec} {K : Params → PySem.W.Frag} {x : Str} {fn : List D → Sto → Res D}
    (hn : l.most = some n) (hn2 : n ≤ sizeLine) (hdf : d.params.defaults = []) (hr : Room lv callerA) (hY : ∀ (w : World) (h : Heap), YP w h → (K w.params).In h)
    (F : ∀ (w : World) (mg : Str → Option Value) (fa : Addr) (h : Heap), (K w.params).In h → h.Ns mainGlobals mg → mg d.name = some (.ref fa) →
      ∃ (k : Cn) (fd : FuncData), k.K = K w.params ∧ (∀ (s : Shared) (u : Value), BindsTo s fd ⟨[u], []⟩ [(x, u)]) ∧ ∀ base : Heap, (K w.params).In base → base.Ns mainGlobals mg → FnG l.prog w (K w.params) mg base lv fa fd [x] (spM k fn))
    (law : ∀ ns : List Int, ns.length ≤ n → ∃ S', fn [.fls (ns.map .int)] [] = .ok (.bl true) S') :
    PySem.W.WalkO q loose XP YP l.row.toRowW d [] (fun f vs => PySem.call f vs) := by
  refine Att.attach_call hn hdf fun w s₀ s₁ mg mb fa o pm cd doc a vs ns G Y ho hd hcd hmg hobj hints hlen hg => ?_
  have KX := hY w _ Y
  obtain ⟨k, fd, hk, hb, hF⟩ := F w mg fa _ KX G.T.g hmg
  subst_vars
  rw [← hk] at KX hF
  exact lawG KX G.T.g G.T.b G.T.builtins G.T.nolimit hg hobj hints (Nat.le_trans hlen hn2) hr hF hb (law ns hlen)
end Sh
set_option Elab.async false
set_option linter.all false
set_option maxRecDepth 100000
set_option maxHeartbeats 4000000
namespace PySem
/-- enumerate(t) of a tuple: its two new cells -/
theorem sh_enum_tup (t : Addr) (its : Array Value) :
    Meets (Builtin.«enumerate.__new__» ⟨[.type "enumerate", .ref t], []⟩) (fun _ R s => s.heap.IsTuple t its ∧ (∃ o, s.heap.get? t = some o) ∧
      R (.ok (.ret (.ref (s.heap.push { cls := .type "tuple_iterator", data := .fields #[.ref t, .int 0 0] }).objs.size)))
        { s with heap := (s.heap.push { cls := .type "tuple_iterator", data := .fields #[.ref t, .int 0 0] }).push { cls := .type "enumerate", data := .fields #[.none, .bool false, .ref s.heap.objs.size, rawInt 0, .none, .none] } }) :=
  .of_wp fun prog w A R s h => by
    obtain ⟨hp, g, d, tk, os⟩ := s
    obtain ⟨hT, ⟨ob, ho⟩, hR⟩ := h
    have hsub := sub_enumerate
    have hT' : Heap.IsTuple (Shared.heap ⟨hp, g, d, tk, os⟩) t its := hT
    wp_walk using AutoSeq1.wpAny_loadPart' ho
    refine wpAny_stack_any fun stk => wpAny_pure ?_
    split
    · rename_i c _ _ _ _ _
      cases (c == Value.type "enumerate") <;>
        (wp_walk using AutoSeq1.wpAny_loadPart' ho, wpAny_pyIter_tuple hT'
         exact ⟨_, rfl, hR⟩)
    · wp_walk using AutoSeq1.wpAny_loadPart' ho, wpAny_pyIter_tuple hT'
      exact ⟨_, rfl, hR⟩
theorem sh_call_enum_tup {prog : Program} {w : World} {A : Around} {E : Value → Shared → Prop} {s : Shared} {t : Addr} {its : Array Value} {Q : Value → Shared → Prop} (hT : s.heap.IsTuple t its)
    (h : ∀ h', IsEnum h' (s.heap.objs.size + 1) s.heap.objs.size 0 .none → h'.IsTupleIter s.heap.objs.size t 0 → (∀ b o, s.heap.get? b = some o → h'.get? b = some o) → Q (.ref (s.heap.objs.size + 1)) { s with heap := h' }) :
    wpAny (model prog w) A (call (.type "enumerate") [.ref t]) Q E s := by
  have ho : ∃ o, s.heap.get? t = some o := let ⟨o, e, _⟩ := hT; ⟨o, e⟩
  refine callType_new F.called_enumerate (by decide) (F.typeCall_enumerate_1 _) (F.newCall_enumerate_1 _) (fun obj => F.args_object_init_2 obj _) F.entry_enumerate_new (sh_enum_tup t its) ⟨hT, ho, ?_⟩
  have up : (s.heap.push { cls := .type "tuple_iterator", data := .fields #[.ref t, .int 0 0] }).objs.size = s.heap.objs.size + 1 := Heap.size_push ..
  show _ ∧ _
  rw [up]
  have en : IsEnum ((s.heap.push { cls := .type "tuple_iterator", data := .fields #[.ref t, .int 0 0] }).push { cls := .type "enumerate", data := .fields #[.none, .bool false, .ref s.heap.objs.size, rawInt 0, .none, .none] }) (s.heap.objs.size + 1) s.heap.objs.size 0 .none := by
    have q := Heap.get?_push_size (s.heap.push { cls := .type "tuple_iterator", data := .fields #[.ref t, .int 0 0] }) (o := { cls := .type "enumerate", data := .fields #[.none, .bool false, .ref s.heap.objs.size, rawInt 0, .none, .none] }) rfl
    rw [up] at q; exact q
  exact ⟨⟨_, en, rfl⟩, h _ en ⟨_, Heap.get?_push_of_some _ (Heap.get?_push_size _ rfl), rfl, rfl⟩ fun b o e => Heap.get?_push_of_some _ (Heap.get?_push_of_some _ e)⟩
end PySem
namespace Sh
open PySem PySem.Spec PyProof.Rows L2

/-! ### sequences of three kinds, walked beside others -/
inductive Kd where
  | l (a : Addr) (vs : List V) | t (a : Addr) (vs : List V) | s (z : Str)
def Kd.std (K : PySem.W.Frag) (H : Hp) : Kd → Prop
  | .l a vs => SqL K H a vs
  | .t a vs => SqT K H a vs
  | .s _ => True
def Kd.vs : Kd → List V
  | .l _ vs => vs
  | .t _ vs => vs
  | .s z => z.cps.toList.map fun c => .str ⟨#[c]⟩
def Kd.val : Kd → V
  | .l a _ => .ref a
  | .t a _ => .ref a
  | .s z => .str z
def Kd.it (κ : Kd) (it : Addr) (i : Nat) (h : Heap) : Prop := match κ with
  | .l a _ => h.IsListIter it a i
  | .t a _ => h.IsTupleIter it a i
  | .s z => ∃ tk, h.IsStrIter it (strIterType z) z tk i
theorem Kd.it_keep {κ : Kd} {it : Addr} {i : Nat} {h h' : Heap} (x : κ.it it i h) (k : ∀ o, h.get? it = some o → h'.get? it = some o) : κ.it it i h' := by
  cases κ with
  | l a vs => exact Heap.IsListIter.at x k
  | t a vs => exact Heap.IsTupleIter.at x k
  | s z => obtain ⟨tk, x⟩ := x; obtain ⟨o, e, r⟩ := x; exact ⟨tk, o, k o e, r⟩
theorem Kd.it_obj {κ : Kd} {it : Addr} {i : Nat} {h : Heap} (x : κ.it it i h) : ∃ o, h.get? it = some o ∧ ∀ v, o.data ≠ .cell v := by
  cases κ with
  | l a vs => obtain ⟨o, e, c, d⟩ := x; exact ⟨o, e, fun v z => by rw [d] at z; cases z⟩
  | t a vs => obtain ⟨o, e, c, d⟩ := x; exact ⟨o, e, fun v z => by rw [d] at z; cases z⟩
  | s z => obtain ⟨tk, o, e, c, d⟩ := x; exact ⟨o, e, fun v z => by rw [d] at z; cases z⟩
section
variable {X : Cx} {pins : List (Addr × Obj)} {σ : L2.St} {H : Hp} {s : Shared}
/-- what is read lies apart from an iterator's own cells -/
theorem apartL {a b : Addr} {vs : List V} (I : Inv X pins σ H s) (f : FpOk X pins H b) (h : SqL X.K H a vs) : a ≠ b := by
  rintro rfl
  rcases h with h | ⟨o, its, n, e, _⟩
  · rcases h with h | ⟨_, h⟩ <;> (rw [f.1] at h; cases h)
  · have e1 := I.ok.mod.kin a o e
    obtain ⟨e2, _⟩ := I.ok.bs a o e1
    rcases f.2.2.2.1 with z | z
    · exact I.ok.noex a o e1 z
    · exact absurd (Nat.lt_of_lt_of_le (Heap.lt_size e2) z) (Nat.lt_irrefl _)
theorem apartT {a b : Addr} {vs : List V} (I : Inv X pins σ H s) (f : FpOk X pins H b) (h : SqT X.K H a vs) : a ≠ b := by
  rintro rfl
  rcases h with h | ⟨o, its, n, e, _⟩
  · rcases h with h | ⟨_, h⟩ <;> (rw [f.1] at h; cases h)
  · have e1 := I.ok.mod.kin a o e
    obtain ⟨e2, _⟩ := I.ok.bs a o e1
    rcases f.2.2.2.1 with z | z
    · exact I.ok.noex a o e1 z
    · exact absurd (Nat.lt_of_lt_of_le (Heap.lt_size e2) z) (Nat.lt_irrefl _)
/-- what an iterator of a kind draws -/
theorem Kd.draws (κ : Kd) (it : Addr) (I : Inv X pins σ H s) (hc : X.calm = true) (hs : κ.std X.K H) (f : FpOk X pins H it) {i : Nat} (hi : κ.it it i s.heap) :
    ∃ (fp : List Addr) (n : Nat) (P : Nat → Value → Prop) (St : Nat → Heap → Prop), Draws X.prog X.w X.A.in1 it fp n P St ∧ it ∈ fp ∧ n = κ.vs.length ∧ St i s.heap ∧ (∀ j u, P j u → ∃ v, κ.vs[j]? = some v ∧ RelV v u) ∧ (∀ j h, St j h → κ.it it j h) ∧ ∀ b, FpOk X pins H b → b ≠ it → b ∉ fp := by
  have hh : X.A.in1.handled = none := I.ok.hd hc
  cases κ with
  | l a vs =>
    obtain ⟨its, rv, pl, _⟩ := I.list hs
    refine ⟨_, _, _, _, Draws.list hh it a (apartL I f hs) its.toArray, by simp, by simp [Kd.vs, rv.length], ⟨hi, pl.isList⟩, fun j u hu => ?_, fun j h st => st.1, fun b fb hb => ?_⟩
    · have hu' : its[j]? = some u := by simpa using hu
      have hlt : j < vs.length := by rw [rv.length]; exact (List.getElem?_eq_some_iff.mp hu').1
      obtain ⟨u', e, r⟩ := rv.get (List.getElem?_eq_getElem hlt)
      rw [hu'] at e; cases e
      exact ⟨_, List.getElem?_eq_getElem hlt, r⟩
    · simp only [List.mem_cons, List.not_mem_nil, or_false, not_or]
      exact ⟨hb, (apartL I fb hs).symm⟩
  | t a vs =>
    obtain ⟨its, rv, pl, _⟩ := I.tuple hs
    refine ⟨_, _, _, _, Draws.tuple hh it a (apartT I f hs) its.toArray, by simp, by simp [Kd.vs, rv.length], ⟨hi, pl⟩, fun j u hu => ?_, fun j h st => st.1, fun b fb hb => ?_⟩
    · have hu' : its[j]? = some u := by simpa using hu
      have hlt : j < vs.length := by rw [rv.length]; exact (List.getElem?_eq_some_iff.mp hu').1
      obtain ⟨u', e, r⟩ := rv.get (List.getElem?_eq_getElem hlt)
      rw [hu'] at e; cases e
      exact ⟨_, List.getElem?_eq_getElem hlt, r⟩
    · simp only [List.mem_cons, List.not_mem_nil, or_false, not_or]
      exact ⟨hb, (apartT I fb hs).symm⟩
  | s z =>
    obtain ⟨tk, hi⟩ := hi
    refine ⟨_, _, _, _, Draws.text hh it z tk, by simp, by simp [Kd.vs], hi, fun j u hu => ?_, fun j h st => ⟨tk, st⟩, fun b _ hb => by simpa using hb⟩
    obtain ⟨c, w, h1, rfl⟩ := hu
    refine ⟨.str ⟨#[c]⟩, ?_, w, rfl⟩
    simp only [Kd.vs, List.getElem?_map]
    rw [show z.cps.toList[j]? = some c by simpa using h1]; rfl
/-- how a value of a kind begins -/
theorem Kd.begins (κ : Kd) {u : Value} (I : Inv X pins σ H s) (hs : κ.std X.K H) (r : RelV κ.val u) : ∃ (o : Obj) (B : Heap → Prop), Begins u o B ∧ B s.heap ∧ ∀ (h : Heap) (it : Addr), h.get? it = some o → κ.it it 0 h := by
  cases κ with
  | l a vs =>
    cases r
    obtain ⟨its, rv, pl, _⟩ := I.list hs
    exact ⟨_, _, begins_list a its.toArray, pl.isList, fun h it e => ⟨_, e, rfl, rfl⟩⟩
  | t a vs =>
    cases r
    obtain ⟨its, rv, pl, _⟩ := I.tuple hs
    exact ⟨_, _, begins_tuple a its.toArray, pl, fun h it e => ⟨_, e, rfl, rfl⟩⟩
  | s z =>
    obtain ⟨t, rfl⟩ := r
    exact ⟨_, _, begins_text z t, trivial, fun h it e => ⟨t, _, e, rfl, rfl⟩⟩
end
/-! ### zip -/
def ItZ (K : PySem.W.Frag) (κ₁ κ₂ : Kd) : It where
  go := fun i H => κ₁.std K H ∧ κ₂.std K H ∧ i < min κ₁.vs.length κ₂.vs.length
  yld := fun i H v H' => ∃ T x y, v = .ref T ∧ H T = none ∧ H' = upd H T (.tup [x, y]) ∧ κ₁.vs[i]? = some x ∧ κ₂.vs[i]? = some y
  stop := fun i H => κ₁.std K H ∧ κ₂.std K H ∧ min κ₁.vs.length κ₂.vs.length ≤ i
structure ZipC (z ti to i1 i2 : Addr) : Prop where
  a : ti ≠ z
  b : to ≠ z
  c : ti ≠ to
  d : ti ≠ i1
  e : ti ≠ i2
  f : to ≠ i1
  g : to ≠ i2
  h : z ≠ i1
  i : z ≠ i2
  j : i1 ≠ i2
theorem zip_sep {X : Cx} {pins : List (Addr × Obj)} {H : Hp} {z ti to i1 i2 : Addr} {fp1 fp2 : List Addr} (C : ZipC z ti to i1 i2) (hf : ∀ b ∈ [z, ti, to, i1, i2], FpOk X pins H b) (m1 : i1 ∈ fp1) (m2 : i2 ∈ fp2) (o1 : ∀ b, FpOk X pins H b → b ≠ i1 → b ∉ fp1) (o2 : ∀ b, FpOk X pins H b → b ≠ i2 → b ∉ fp2) : ZipSep2 z ti to i1 i2 fp1 fp2 := by
  have fz := hf z (by simp)
  have ft := hf ti (by simp)
  have fo := hf to (by simp)
  have f1 := hf i1 (by simp)
  have f2 := hf i2 (by simp)
  constructor
  all_goals first | exact C.a | exact C.b | exact C.c | exact C.d | exact C.e | exact m1 | exact m2 | exact o1 _ fz C.h | exact o2 _ fz C.i | exact o1 _ fo C.f | exact o2 _ fo C.g | exact o1 _ f2 C.j.symm | exact o2 _ f1 C.j | exact o1 _ ft C.d | exact o2 _ ft C.e
theorem turn_Z {P : Program} {w : World} {K : PySem.W.Frag} {elts : List Expr} {kk : Nat} {tpos : Pos} {κ₁ κ₂ : Kd} {z ti to i1 i2 : Addr} (C : ZipC z ti to i1 i2) :
    Turn P w K (.Tuple elts kk tpos) (ItZ K κ₁ κ₂) [z, ti, to, i1, i2] z (fun i h => IsZip h z ti to .none ∧ IsTupOf2 h ti (.ref i1) (.ref i2) ∧ (∃ p q, IsTupOf2 h to p q) ∧ κ₁.it i1 i h ∧ κ₂.it i2 i h ∧ i ≤ min κ₁.vs.length κ₂.vs.length) where
  mem := by simp
  obj := fun i h ⟨hz, ht, ⟨p, q, ho⟩, h1, h2, _⟩ b hb => by
    rcases List.mem_cons.mp hb with rfl | hb
    · exact ⟨_, hz, fun v e => by cases (show Data.fields _ = Data.cell v from e)⟩
    rcases List.mem_cons.mp hb with rfl | hb
    · exact ⟨_, ht, fun v e => by cases (show Data.seq _ = Data.cell v from e)⟩
    rcases List.mem_cons.mp hb with rfl | hb
    · exact ⟨_, ho, fun v e => by cases (show Data.seq _ = Data.cell v from e)⟩
    rcases List.mem_cons.mp hb with rfl | hb
    · exact Kd.it_obj h1
    rcases List.mem_cons.mp hb with rfl | hb
    · exact Kd.it_obj h2
    · cases hb
  keep := fun i h h' ⟨hz, ht, ⟨p, q, ho⟩, h1, h2, hle⟩ kp => ⟨kp z (by simp) _ hz, kp ti (by simp) _ ht, ⟨p, q, kp to (by simp) _ ho⟩, Kd.it_keep h1 fun o e => kp i1 (by simp) o e, Kd.it_keep h2 fun o e => kp i2 (by simp) o e, hle⟩
  item := by
    intro X hP hw hK hc i pins s σ H E I hf ⟨hz, ht, ho, h1, h2, hle⟩ ⟨s1, s2, hi⟩
    subst hP hw hK
    obtain ⟨fp1, n1, P1, St1, D1, m1, en1, st1, v1, b1, o1⟩ := κ₁.draws i1 I hc s1 (hf i1 (by simp)) h1
    obtain ⟨fp2, n2, P2, St2, D2, m2, en2, st2, v2, b2, o2⟩ := κ₂.draws i2 I hc s2 (hf i2 (by simp)) h2
    have G := GoesN.zip2 (elts := elts) (x1 := kk) (pos := tpos) (zip_sep C hf m1 m2 o1 o2) D1 D2
    refine thn (G.goes i s (fun v s2 => ∃ x H', Inv X pins σ H' s2 ∧ RelV x v ∧ (ItZ X.K κ₁ κ₂).yld i H x H' ∧ (IsZip s2.heap z ti to .none ∧ IsTupOf2 s2.heap ti (.ref i1) (.ref i2) ∧ (∃ p q, IsTupOf2 s2.heap to p q) ∧ κ₁.it i1 (i + 1) s2.heap ∧ κ₂.it i2 (i + 1) s2.heap ∧ i + 1 ≤ min κ₁.vs.length κ₂.vs.length) ∧ ∀ b ∈ [z, ti, to, i1, i2], H' b = none) E (by rw [en1, en2]; exact hi) ⟨hz, ht, ho, st1, st2⟩ fun v h' tk ⟨T, x, y, ev, hT, px, py, hTt⟩ ⟨hz', ht', ho', st1', st2'⟩ kp _ => ?_) fun r s1 h => h
    subst ev
    obtain ⟨xv, ex, rx⟩ := v1 i x px
    obtain ⟨yv, ey, ry⟩ := v2 i y py
    have nT : H T = none := I.hok.fresh hT
    refine ⟨.ref T, upd H T (.tup [xv, yv]), ?_, rfl, ⟨T, xv, yv, rfl, nT, rfl, ex, ey⟩, ⟨hz', ht', ho', b1 _ _ st1', b2 _ _ st2', hi⟩, fun b hb => ?_⟩
    · refine I.turnedNew (ch := [z, ti, to, i1, i2]) (fun b o hb e => kp b o (fun m => hb ?_) e) hf hT ?_
      · simp only [List.mem_cons, List.not_mem_nil, or_false] at m ⊢
        rcases m with m | m | m | m
        · exact .inl m
        · exact .inr (.inr (.inl m))
        · exact .inr (.inr (.inr (.inl m)))
        · exact .inr (.inr (.inr (.inr m)))
      · exact ⟨by show 2 ≤ sizeLine; decide, [x, y], .cons rx (.cons ry .nil), hTt⟩
    · have fb := hf b hb
      rw [upd_ne]
      · exact fb.1
      · rintro rfl
        have ob : ∃ o, s.heap.get? b = some o := by
          rcases List.mem_cons.mp hb with rfl | hb
          · exact ⟨_, hz⟩
          rcases List.mem_cons.mp hb with rfl | hb
          · exact ⟨_, ht⟩
          rcases List.mem_cons.mp hb with rfl | hb
          · obtain ⟨p, q, e⟩ := ho; exact ⟨_, e⟩
          rcases List.mem_cons.mp hb with rfl | hb
          · obtain ⟨o, e, _⟩ := Kd.it_obj h1; exact ⟨o, e⟩
          rcases List.mem_cons.mp hb with rfl | hb
          · obtain ⟨o, e, _⟩ := Kd.it_obj h2; exact ⟨o, e⟩
          · cases hb
        obtain ⟨o, e⟩ := ob
        exact absurd (Nat.lt_of_lt_of_le (Heap.lt_size e) hT) (Nat.lt_irrefl _)
  done := by
    intro X hP hw hK hc i pins s σ H E I hf ⟨hz, ht, ho, h1, h2, hle⟩ ⟨s1, s2, hi⟩
    subst hP hw hK
    obtain ⟨fp1, n1, P1, St1, D1, m1, en1, st1, v1, b1, o1⟩ := κ₁.draws i1 I hc s1 (hf i1 (by simp)) h1
    obtain ⟨fp2, n2, P2, St2, D2, m2, en2, st2, v2, b2, o2⟩ := κ₂.draws i2 I hc s2 (hf i2 (by simp)) h2
    have G := GoesN.zip2 (elts := elts) (x1 := kk) (pos := tpos) (zip_sep C hf m1 m2 o1 o2) D1 D2
    have hi' : i = min n1 n2 := by rw [en1, en2]; exact Nat.le_antisymm hle hi
    subst hi'
    refine G.stops s _ E ⟨hz, ht, ho, st1, st2⟩ fun h' tk kp _ => I.turnedL (ch := [z, ti, to, i1, i2]) (fun b o hb e => kp b o (fun m => hb ?_) e) hf
    simp only [List.mem_cons, List.not_mem_nil, or_false] at m ⊢
    rcases m with m | m | m | m
    · exact .inl m
    · exact .inr (.inr (.inl m))
    · exact .inr (.inr (.inr (.inl m)))
    · exact .inr (.inr (.inr (.inr m)))
  self := fun A i s Q E ⟨hz, _⟩ h => wpAny_pyIter_zip hz h
end Sh
set_option Elab.async false
set_option linter.all false
set_option maxRecDepth 100000
set_option maxHeartbeats 4000000
namespace Sh
open PySem PySem.Spec PyProof.Rows L2

/-! ### plain sequences as walked kinds -/
@[reducible] def sqOf : D → Option (List D)
  | .lst xs => some xs
  | .tup xs => some xs
  | .fls xs => some xs
  | .ftp xs => some xs
  | .str z => some (signs z)
  | _ => none
structure KdR (k : Cn) (ρ : Rho) (H : Hp) (ds : List D) (v : V) (κ : Kd) : Prop where
  val : κ.val = v
  st : ∀ ρ' H', Ext0 ρ.length ρ ρ' H H' → κ.std k.K H'
  vs : Reps k ρ H ds κ.vs
theorem signs_reps {k : Cn} {ρ : Rho} {H : Hp} : ∀ cs : List Nat, Reps k ρ H (cs.map fun c => D.str ⟨#[c]⟩) (cs.map fun c => V.str ⟨#[c]⟩)
  | [] => .nil
  | c :: cs => .cons (.str _) (signs_reps cs)
theorem kd_of {k : Cn} {ρ : Rho} {S : Sto} {H : Hp} {d : D} {v : V} {ds : List D} (m : Sim k ρ S H) (r : Rep k ρ H d v) (h : sqOf d = some ds) : ∃ κ, KdR k ρ H ds v κ := by
  cases r with
  | @lst p vs _ e n rs => cases h; exact ⟨.l p vs, rfl, fun ρ' H' x => SqL.of (x.keep _ _ e n), rs⟩
  | @fls p vs _ e rs => cases h; exact ⟨.l p vs, rfl, fun ρ' H' x => (show FzL k.K H' p vs from e.imp (fun ⟨o, z⟩ => ⟨o, x.fz _ _ _ z⟩) id).sq, rs⟩
  | @ftp p o vs _ e hd rs => cases h; exact ⟨.t p vs, rfl, fun ρ' H' x => SqT.ext0 m x (.inl (.inr ⟨o, e⟩)), rs⟩
  | @tup p vs _ e rs => cases h; exact ⟨.t p vs, rfl, fun ρ' H' x => SqT.ext0 m x e, rs⟩
  | str z => cases h; exact ⟨.s z, rfl, fun _ _ _ => trivial, signs_reps _⟩
  | _ => cases h
@[reducible] def zipD (xs ys : List D) : List D := List.zipWith (fun a b => .tup [a, b]) xs ys
@[reducible] def enumD (xs : List D) : List D := zipD (rngD 0 xs.length) xs
theorem yld_Z {k : Cn} {ρ : Rho} {S : Sto} {H : Hp} {v w : V} {xs ys : List D} {κ₁ κ₂ : Kd} (m : Sim k ρ S H) (r1 : KdR k ρ H xs v κ₁) (r2 : KdR k ρ H ys w κ₂) : Yld k ρ H (.st (zipD xs ys)) (ItZ k.K κ₁ κ₂) where
  go := fun ρ' S' H' i d x _ h => by
    have hi : (zipD xs ys)[i]? = some d := by simpa [item] using h
    have := (List.getElem?_eq_some_iff.mp hi).1
    refine ⟨r1.st ρ' H' x, r2.st ρ' H' x, ?_⟩
    rw [← r1.vs.length, ← r2.vs.length]
    simpa [zipD] using this
  yld := fun ρ' S' H' i d z H2 x m' h y => by
    have hi : (zipD xs ys)[i]? = some d := by simpa [item] using h
    obtain ⟨T, a, b, rfl, hT, rfl, ea, eb⟩ := y
    rw [zipD, List.getElem?_zipWith] at hi
    split at hi
    · rename_i d1 d2 q1 q2
      cases hi
      obtain ⟨a', e1, ra⟩ := r1.vs.get q1
      obtain ⟨b', e2, rb⟩ := r2.vs.get q2
      rw [e1] at ea; cases ea
      rw [e2] at eb; cases eb
      exact ⟨same_new hT, Rep.newT m' hT (.cons (ra.ext0 m x) (.cons (rb.ext0 m x) .nil))⟩
    · cases hi
  stop := fun ρ' S' H' i x _ h => by
    have hi : (zipD xs ys)[i]? = none := by simpa [item] using h
    have := List.getElem?_eq_none_iff.mp hi
    refine ⟨r1.st ρ' H' x, r2.st ρ' H' x, ?_⟩
    rw [← r1.vs.length, ← r2.vs.length]
    simpa [zipD] using this
theorem zipC_new (N : Nat) : ZipC (N + 4) (N + 2) (N + 3) N (N + 1) := by
  constructor <;> (intro z; replace z : (_ : Nat) = _ := z; omega)
theorem mem_new5 (N c : Nat) (h : c ∈ [N + 4, N + 2, N + 3, N, N + 1]) : N ≤ c := by
  simp only [List.mem_cons, List.not_mem_nil, or_false] at h; omega
theorem mem_new2 (N c : Nat) (h : c ∈ [N + 1, N]) : N ≤ c := by
  simp only [List.mem_cons, List.not_mem_nil, or_false] at h; omega
/-! ### zip(a, b) -/
section
variable {X : Cx} {k : Cn} {W : WX} {tg a b : Expr} {pos : Pos}
@[reducible] def eZip (m : EM (List D)) : EM Src := bindE m fun ds => fun _ S => match ds with
  | [x, y] => match sqOf x, sqOf y with
    | some xs, some ys => .ok (.st (zipD xs ys)) S
    | _, _ => .bad
  | _ => .bad
theorem c_zip {elts : List Expr} {kk : Nat} {tpos p : Pos} {m : EM (List D)} (hm : X.mg "zip" = none) (ha : PA X [a, b] (tL k W m)) (hg : Gl X "zip" := by rfl) (hs : starEach [a, b] X.env = (false, eval a X.env) :: starEach [b] X.env := by rfl) (hpl : (backTo pos (starEach [b] X.env)).any (·.1) = false := by rfl) (hK : k.K = X.K := by rfl) :
    PI X (.Tuple elts kk tpos) (.Call (.Name "zip" p) [a, b] [] pos) (tSrc k W (eZip m)) := by
  refine ⟨fun pins s σ H R I ⟨ρ, S, e, sim, sr, h⟩ => ?_⟩
  refine Call_ (ld_blt I hg hm PyProof.Rows.boot_zip (PyProof.Rows.callWith_type1 (thn (ha.run pos pins s σ H (fun vs H1 => ∃ ρ1 S1 κ₁ κ₂ v w, vs = [v, w] ∧ Sim k ρ1 S1 H1 ∧ (∃ xs ys, KdR k ρ1 H1 xs v κ₁ ∧ KdR k ρ1 H1 ys w κ₂) ∧ R (ItZ k.K κ₁ κ₂) H1) I ?_) fun us s1 ⟨vs, H1, I1, r1, q1⟩ => ?_) hs hpl))
  · refine At.bind sim sr h fun v d ρ1 S1 H1 x1 sim1 sr1 r1 h1 => ?_
    split at h1
    · rename_i x y
      split at h1
      · rename_i xs ys ex ey
        cases r1 with
        | cons ra rb =>
          cases rb with
          | cons rb rc =>
            cases rc
            obtain ⟨κ₁, k1⟩ := kd_of sim1 ra ex
            obtain ⟨κ₂, k2⟩ := kd_of sim1 rb ey
            exact ⟨ρ1, S1, κ₁, κ₂, _, _, rfl, sim1, ⟨xs, ys, k1, k2⟩, h1 _ H1 ρ1 Ext.refl sim1 (yld_Z sim1 k1 k2)⟩
      · exact (show False from h1).elim
    · exact (show False from h1).elim
  · obtain ⟨ρ1, S1, κ₁, κ₂, v, w, rfl, sim1, ⟨xs, ys, k1, k2⟩, q⟩ := q1
    cases r1 with
    | cons ra rb =>
      cases rb with
      | cons rb rc =>
        cases rc
        have st1 : κ₁.std X.K H1 := hK ▸ k1.st ρ1 H1 (Ext.refl (n := ρ1.length)).to0
        have st2 : κ₂.std X.K H1 := hK ▸ k2.st ρ1 H1 (Ext.refl (n := ρ1.length)).to0
        obtain ⟨o1, B1, b1, g1, i1⟩ := κ₁.begins I1 st1 (k1.val ▸ ra)
        obtain ⟨o2, B2, b2, g2, i2⟩ := κ₂.begins I1 st2 (k2.val ▸ rb)
        refine zip_begins2 b1 b2 g1 g2 fun h' hz ht ho e1 e2 hsz hk => wpAny_pyIter_zip hz ?_
        have I2 : Inv X pins σ H1 { s1 with heap := h' } := I1.kept (t' := s1.toks) hk
        have C : ZipC (s1.heap.objs.size + 4) (s1.heap.objs.size + 2) (s1.heap.objs.size + 3) s1.heap.objs.size (s1.heap.objs.size + 1) := zipC_new _
        refine ⟨s1.heap.objs.size + 4, [s1.heap.objs.size + 4, s1.heap.objs.size + 2, s1.heap.objs.size + 3, s1.heap.objs.size, s1.heap.objs.size + 1], _, _, H1, rfl, I2, turn_Z C, ⟨hz, ht, ⟨_, _, ho⟩, i1 _ _ e1, i2 _ _ e2, Nat.zero_le _⟩, fun c hc => ?_, hK ▸ q⟩
        have hle : s1.heap.objs.size ≤ c := mem_new5 _ _ hc
        exact I1.fpOk hle (I1.hok.fresh hle)
end
/-! ### enumerate(a) -/
def ItE (K : PySem.W.Frag) (κ : Kd) : It where
  go := fun i H => κ.std K H ∧ i < κ.vs.length
  yld := fun i H v H' => ∃ T y, v = .ref T ∧ H T = none ∧ H' = upd H T (.tup [.int (i : Nat), y]) ∧ κ.vs[i]? = some y
  stop := fun i H => κ.std K H ∧ κ.vs.length ≤ i
theorem turn_E {P : Program} {w : World} {K : PySem.W.Frag} {elts : List Expr} {kk : Nat} {tpos : Pos} {κ : Kd} {e it : Addr} (C : e ≠ it) :
    Turn P w K (.Tuple elts kk tpos) (ItE K κ) [e, it] e (fun i h => (∃ old, IsEnum h e it (0 + (i : Int)) old) ∧ κ.it it i h ∧ i ≤ κ.vs.length) where
  mem := by simp
  obj := fun i h ⟨⟨old, he⟩, h1, _⟩ b hb => by
    rcases List.mem_cons.mp hb with rfl | hb
    · exact ⟨_, he, fun v e => by cases (show Data.fields _ = Data.cell v from e)⟩
    rcases List.mem_cons.mp hb with rfl | hb
    · exact Kd.it_obj h1
    · cases hb
  keep := fun i h h' ⟨⟨old, he⟩, h1, hle⟩ kp => ⟨⟨old, kp e (by simp) _ he⟩, Kd.it_keep h1 fun o q => kp it (by simp) o q, hle⟩
  item := by
    intro X hP hw hK hc i pins s σ H E I hf ⟨he, h1, hle⟩ ⟨s1, hi⟩
    subst hP hw hK
    obtain ⟨fp1, n1, P1, St1, D1, m1, en1, st1, v1, b1, o1⟩ := κ.draws it I hc s1 (hf it (by simp)) h1
    have G := GoesN.enumFrom (elts := elts) (x1 := kk) (pos := tpos) 0 D1 e C (o1 e (hf e (by simp)) C) m1
    refine thn (G.goes i s (fun v s2 => ∃ x H', Inv X pins σ H' s2 ∧ RelV x v ∧ (ItE X.K κ).yld i H x H' ∧ ((∃ old, IsEnum s2.heap e it (0 + ((i + 1 : Nat) : Int)) old) ∧ κ.it it (i + 1) s2.heap ∧ i + 1 ≤ κ.vs.length) ∧ ∀ b ∈ [e, it], H' b = none) E (by rw [en1]; exact hi) ⟨he, st1⟩ fun v h' tk ⟨T, t, y, ev, hT, py, hTt⟩ ⟨he', st1'⟩ kp _ => ?_) fun r s1 h => h
    subst ev
    obtain ⟨yv, ey, ry⟩ := v1 i y py
    have nT : H T = none := I.hok.fresh hT
    refine ⟨.ref T, upd H T (.tup [.int (i : Nat), yv]), ?_, rfl, ⟨T, yv, rfl, nT, rfl, ey⟩, ⟨he', b1 _ _ st1', hi⟩, fun b hb => ?_⟩
    · refine I.turnedNew (ch := [e, it]) (fun b o hb e => kp b o (fun m => hb ?_) e) hf hT ?_
      · simpa using m
      · exact ⟨by show 2 ≤ sizeLine; decide, [.int (0 + (i : Int)) t, y], .cons ⟨t, by rw [Int.zero_add]⟩ (.cons ry .nil), hTt⟩
    · have fb := hf b hb
      rw [upd_ne]
      · exact fb.1
      · rintro rfl
        have ob : ∃ o, s.heap.get? b = some o := by
          rcases List.mem_cons.mp hb with rfl | hb
          · obtain ⟨_, e⟩ := he; exact ⟨_, e⟩
          rcases List.mem_cons.mp hb with rfl | hb
          · obtain ⟨o, e, _⟩ := Kd.it_obj h1; exact ⟨o, e⟩
          · cases hb
        obtain ⟨o, e⟩ := ob
        exact absurd (Nat.lt_of_lt_of_le (Heap.lt_size e) hT) (Nat.lt_irrefl _)
  done := by
    intro X hP hw hK hc i pins s σ H E I hf ⟨he, h1, hle⟩ ⟨s1, hi⟩
    subst hP hw hK
    obtain ⟨fp1, n1, P1, St1, D1, m1, en1, st1, v1, b1, o1⟩ := κ.draws it I hc s1 (hf it (by simp)) h1
    have G := GoesN.enumFrom (elts := elts) (x1 := kk) (pos := tpos) 0 D1 e C (o1 e (hf e (by simp)) C) m1
    have hi' : i = n1 := by rw [en1]; exact Nat.le_antisymm hle hi
    subst hi'
    refine G.stops s _ E ⟨he, st1⟩ fun h' tk kp _ => I.turnedL (ch := [e, it]) (fun b o hb e => kp b o (fun m => hb ?_) e) hf
    simpa using m
  self := fun A i s Q E ⟨⟨_, he⟩, _⟩ h => wpAny_pyIter_enum he h
theorem yld_E {k : Cn} {ρ : Rho} {S : Sto} {H : Hp} {v : V} {xs : List D} {κ : Kd} (m : Sim k ρ S H) (r : KdR k ρ H xs v κ) : Yld k ρ H (.st (enumD xs)) (ItE k.K κ) where
  go := fun ρ' S' H' i d x _ h => by
    have hi : (enumD xs)[i]? = some d := by simpa [item] using h
    have := (List.getElem?_eq_some_iff.mp hi).1
    refine ⟨r.st ρ' H' x, ?_⟩
    rw [← r.vs.length]
    simpa [enumD, zipD, rngD] using this
  yld := fun ρ' S' H' i d z H2 x m' h y => by
    have hi : (enumD xs)[i]? = some d := by simpa [item] using h
    obtain ⟨T, b, rfl, hT, rfl, eb⟩ := y
    rw [enumD, zipD, List.getElem?_zipWith] at hi
    split at hi
    · rename_i d1 d2 q1 q2
      cases hi
      obtain ⟨b', e2, rb⟩ := r.vs.get q2
      rw [e2] at eb; cases eb
      have e1 : d1 = .int (i : Nat) := by
        simp only [rngD, List.getElem?_map] at q1
        have hlt : i < xs.length := (List.getElem?_eq_some_iff.mp q2).1
        rw [List.getElem?_range hlt] at q1
        simp at q1; exact q1.symm
      subst e1
      exact ⟨same_new hT, Rep.newT m' hT (.cons (.int _) (.cons (rb.ext0 m x) .nil))⟩
    · cases hi
  stop := fun ρ' S' H' i x _ h => by
    have hi : (enumD xs)[i]? = none := by simpa [item] using h
    have := List.getElem?_eq_none_iff.mp hi
    refine ⟨r.st ρ' H' x, ?_⟩
    rw [← r.vs.length]
    simpa [enumD, zipD, rngD] using this
section
variable {X : Cx} {k : Cn} {W : WX} {tg a b : Expr} {pos : Pos}
@[reducible] def eEnum (m : EM (List D)) : EM Src := bindE m fun ds => fun _ S => match ds with
  | [x] => match sqOf x with
    | some xs => .ok (.st (enumD xs)) S
    | _ => .bad
  | _ => .bad
theorem enum_begin {prog : Program} {w : World} {A : Around} {E : Value → Shared → Prop} {s : Shared} {X : Cx} {pins : List (Addr × Obj)} {σ : L2.St} {H : Hp} (κ : Kd) {u : Value} (I : Inv X pins σ H s) (hs : κ.std X.K H) (r : RelV κ.val u) {Q : Value → Shared → Prop}
    (h : ∀ h', IsEnum h' (s.heap.objs.size + 1) s.heap.objs.size 0 .none → κ.it s.heap.objs.size 0 h' → (∀ b o, s.heap.get? b = some o → h'.get? b = some o) → Q (.ref (s.heap.objs.size + 1)) { s with heap := h' }) :
    wpAny (model prog w) A (call (.type "enumerate") [u]) Q E s := by
  cases κ with
  | l a vs =>
    cases r
    obtain ⟨its, rv, pl, _⟩ := I.list hs
    exact call_enumerate_list pl.isList fun h' he hi _ hk => h h' he hi hk
  | t a vs =>
    cases r
    obtain ⟨its, rv, pl, _⟩ := I.tuple hs
    exact sh_call_enum_tup (show s.heap.IsTuple a its.toArray from pl) fun h' he hi hk => h h' he hi hk
  | s z =>
    obtain ⟨t, rfl⟩ := r
    exact call_enumerate_str fun h' he hi _ hk => h h' he ⟨t, hi⟩ hk
theorem c_enum {elts : List Expr} {kk : Nat} {tpos p : Pos} {m : EM (List D)} (hm : X.mg "enumerate" = none) (ha : PA X [a] (tL k W m)) (hg : Gl X "enumerate" := by rfl) (hs : starEach [a] X.env = [(false, eval a X.env)] := by rfl) (hK : k.K = X.K := by rfl) :
    PI X (.Tuple elts kk tpos) (.Call (.Name "enumerate" p) [a] [] pos) (tSrc k W (eEnum m)) := by
  refine ⟨fun pins s σ H R I ⟨ρ, S, e, sim, sr, h⟩ => ?_⟩
  refine Call_ (ld_blt I hg hm boot_enumerate (PyProof.Rows.callWith_type1 (thn (ha.run pos pins s σ H (fun vs H1 => ∃ ρ1 S1 κ v xs, vs = [v] ∧ Sim k ρ1 S1 H1 ∧ KdR k ρ1 H1 xs v κ ∧ R (ItE k.K κ) H1) I ?_) fun us s1 ⟨vs, H1, I1, r1, q1⟩ => ?_) hs rfl))
  · refine At.bind sim sr h fun v d ρ1 S1 H1 x1 sim1 sr1 r1 h1 => ?_
    split at h1
    · rename_i x
      split at h1
      · rename_i xs ex
        cases r1 with
        | cons ra rb =>
          cases rb
          obtain ⟨κ, k1⟩ := kd_of sim1 ra ex
          exact ⟨ρ1, S1, κ, _, xs, rfl, sim1, k1, h1 _ H1 ρ1 Ext.refl sim1 (yld_E sim1 k1)⟩
      · exact (show False from h1).elim
    · exact (show False from h1).elim
  · obtain ⟨ρ1, S1, κ, v, xs, rfl, sim1, k1, q⟩ := q1
    cases r1 with
    | cons ra rb =>
      cases rb
      have st1 : κ.std X.K H1 := hK ▸ k1.st ρ1 H1 (Ext.refl (n := ρ1.length)).to0
      refine enum_begin κ I1 st1 (k1.val ▸ ra) fun h' he hi hk => wpAny_pyIter_enum he ?_
      have I2 : Inv X pins σ H1 { s1 with heap := h' } := I1.kept (t' := s1.toks) hk
      refine ⟨s1.heap.objs.size + 1, [s1.heap.objs.size + 1, s1.heap.objs.size], _, _, H1, rfl, I2, turn_E (Nat.succ_ne_self _), ⟨⟨_, he⟩, hi, Nat.zero_le _⟩, fun c hc => ?_, hK ▸ q⟩
      have hle : s1.heap.objs.size ≤ c := mem_new2 _ _ hc
      exact I1.fpOk hle (I1.hok.fresh hle)
end
/-! ### no condition -/
theorem pts_yes {X : Cx} {k : Cn} : PTs X [] (tT k W0 bYes) := ⟨fun pins s σ H Q I ⟨ρ, S, e, sim, sr, h⟩ => pts_nil.run pins s σ H Q I (h true H ρ Ext.refl sim rfl)⟩
end Sh
set_option Elab.async false
set_option linter.all false
set_option maxRecDepth 100000
set_option maxHeartbeats 4000000
namespace Sh
open PySem PySem.Spec PyProof.Rows L2

/-! ### anything at all, where it is not reached -/
theorem s_bad {X : Cx} {k : Cn} {W : WX} {n : Nat} {st : Stmt} : PS X st (tS k W n fun _ _ => .bad) := ⟨fun pins s σ H D I ⟨ρ, S, e, _, sim, sr, h⟩ => (show False from h).elim⟩
theorem c_bad {X : Cx} {k : Cn} {W : WX} {a : Expr} : PE X a (tI k W fun _ _ => .bad) := ⟨fun pins s σ H D I ⟨ρ, S, e, sim, sr, h⟩ => (show False from h).elim⟩

/-! ### fields -/
section
variable {k : Cn} {ρ : Rho} {H : Hp}
@[reducible] def putFD (f : Str) (d : D) : List (Str × D) → List (Str × D)
  | [] => [(f, d)]
  | (g, x) :: r => if g = f then (g, d) :: r else (g, x) :: putFD f d r
theorem RepF.put {f : Str} {d : D} {v : V} (q : Rep k ρ H d v) : ∀ {fs : List (Str × D)} {gs : List (Str × V)}, RepF k ρ H fs gs → RepF k ρ H (putFD f d fs) (putF f v gs)
  | _, _, .nil => .cons q .nil
  | _, _, @RepF.cons _ _ _ g x y ds vs r t => by
    simp only [putFD, putF]
    by_cases h : g = f
    · rw [if_pos h, if_pos h]; exact .cons q t
    · rw [if_neg h, if_neg h]; exact .cons r (RepF.put q t)
theorem RepF.look {f : Str} {d : D} : ∀ {fs : List (Str × D)} {gs : List (Str × V)}, RepF k ρ H fs gs → fs.lookup f = some d → ∃ v, gs.lookup f = some v ∧ Rep k ρ H d v
  | _, _, .nil, h => by cases h
  | _, _, @RepF.cons _ _ _ g x y ds vs r t, h => by
    simp only [List.lookup_cons] at h ⊢
    cases q : f == g with
    | true => rw [q] at h; cases h; exact ⟨y, rfl, r⟩
    | false => rw [q] at h; exact RepF.look t h
theorem RepF.lookN {f : Str} : ∀ {fs : List (Str × D)} {gs : List (Str × V)}, RepF k ρ H fs gs → fs.lookup f = none → gs.lookup f = none
  | _, _, .nil, _ => rfl
  | _, _, @RepF.cons _ _ _ g x y ds vs r t, h => by
    simp only [List.lookup_cons] at h ⊢
    cases q : f == g with
    | true => rw [q] at h; cases h
    | false => rw [q] at h; exact RepF.lookN t h
theorem RepF.length : ∀ {fs : List (Str × D)} {gs : List (Str × V)}, RepF k ρ H fs gs → fs.length = gs.length
  | _, _, .nil => rfl
  | _, _, .cons _ t => congrArg Nat.succ (RepF.length t)
end
def insAt (S : Sto) (c : Nat) : D → Option (Nat × List (Str × D))
  | .loc l => match S[l]? with
    | some (.ins c' fs) => if c' = c then some (l, fs) else none
    | _ => none
  | _ => none
theorem insAt_eq {S : Sto} {c l : Nat} {d : D} {fs : List (Str × D)} (h : insAt S c d = some (l, fs)) : d = .loc l ∧ S[l]? = some (.ins c fs) := by
  unfold insAt at h
  split at h
  · split at h
    · split at h
      · rename_i e q
        cases h; subst q; exact ⟨rfl, e⟩
      · cases h
    · cases h
  · cases h
theorem ins_rep {k : Cn} {ρ : Rho} {S : Sto} {H : Hp} {c l : Nat} {d : D} {v : V} {fs : List (Str × D)} (m : Sim k ρ S H) (r : Rep k ρ H d v) (h : insAt S c d = some (l, fs)) : ∃ a dx gs, v = .ref a ∧ ρ.t[l]? = some (some a) ∧ H a = some (.ins (k.cl c) dx gs) ∧ RepF k ρ H fs gs := by
  obtain ⟨rfl, e⟩ := insAt_eq h
  cases r with
  | @loc _ a hl =>
    obtain ⟨dx, gs, e1, e2⟩ := m.at_ l a _ hl e
    exact ⟨a, dx, gs, rfl, hl, e1, e2⟩
/-- o.f of an instance of the class c -/
@[reducible] def eFld (c : Nat) (f : Str) (m : EM D) : EM D := bindE m fun d => fun _ S => match insAt S c d with
  | some (_, fs) => match fs.lookup f with
    | some x => .ok x S
    | none => .bad
  | none => .bad
/-- o.f = d -/
@[reducible] def gFld (c : Nat) (f : Str) (mo : EM D) : D → SM := fun d => sBind mo fun o => fun e S => match insAt S c o with
  | some (l, fs) => if fs.length < 1000 then .nx e (S.set l (.ins c (putFD f d fs))) else .bad
  | none => .bad
@[reducible] def sFldM (mv : EM D) (c : Nat) (f : Str) (mo : EM D) : SM := sBind mv fun d => gFld c f mo d
section
variable {X : Cx} {k : Cn} {W : WX} {n : Nat} {o e value : Expr} {f : Str} {pos pos' : Pos} {m mv : EM D} {c : Nat}
theorem c_fld (C : Cls k.K (k.cl c)) (na : NoAttr k.K (k.cl c) f) (he : PE X e (tI k W m)) (hb : attributeBase e f X.env (eval e X.env) = eval e X.env := by rfl) (hK : k.K = X.K := by rfl) : PE X (.Attribute e f pos) (tI k W (eFld c f m)) :=
  (pe_fld he hb).imp fun σ H Q ⟨ρ, S, e, sim, sr, h⟩ => by
  refine At.bind sim sr h fun v d ρ1 S1 H1 x1 sim1 sr1 r1 h1 => ?_
  split at h1
  · rename_i l fs q
    obtain ⟨a, dx, gs, rfl, hl, e1, rf⟩ := ins_rep sim1 r1 q
    split at h1
    · rename_i x hx
      obtain ⟨v, hv, rv⟩ := rf.look hx
      rw [← hK]
      exact ⟨a, _, dx, gs, v, rfl, e1, C, na, hv, h1 _ H1 ρ1 Ext.refl sim1 rv⟩
    · exact (show False from h1).elim
  · exact (show False from h1).elim
theorem s_fld (C : Cls k.K (k.cl c)) (na : NoAttr k.K (k.cl c) f) (ho : PE X o (tI k W m)) (hv : PE X value (tI k W mv)) (hs : swapsWith value (some (.Attribute o f pos')) pos.line X.env = pure false := by rfl) (hK : k.K = X.K := by rfl) :
    PS X (.Assign [.Attribute o f pos'] value pos) (tS k W n (sFldM mv c f m)) :=
  (ps_fld ho hv hs).imp fun D σ H ⟨ρ, S, e, hn, sim, sr, h⟩ => by
  refine AtS.bind hn sim sr h fun v1 d1 ρ1 S1 H1 hn1 x1 sim1 sr1 r1 h1 => ?_
  refine AtS.bind hn1 sim1 sr1 h1 fun v2 d2 ρ2 S2 H2 hn2 x2 sim2 sr2 r2 h2 => ?_
  split at h2
  · rename_i l fs q
    obtain ⟨a, dx, gs, rfl, hl, e1, rf⟩ := ins_rep sim2 r2 q
    split at h2
    · rename_i hlen
      rw [← hK]
      obtain ⟨x, m'⟩ := sim2.write (o := .ins c (putFD f d1 fs)) (u := .ins (k.cl c) dx (putF f v1 gs)) hl (fun _ _ z => by rw [e1] at z; cases z) fun x => ⟨dx, _, upd_same, (rf.put (r1.ext sim1 x2)).ext sim2 x⟩
      exact ⟨a, _, dx, gs, rfl, e1, C, na, by rw [← rf.length]; exact hlen, h2 σ _ ρ2 x m' (sr2.ext sim2 x)⟩
    · exact (show False from h2).elim
  · exact (show False from h2).elim
end

/-! ### calls without arguments, methods, new instances -/
theorem make_guards {A : Around} {C : Addr} {us : List Value} {kw : List (Str × Value)} : (A.under (.builtin "type.__call__" ⟨.ref C :: us, kw⟩)).guards = A.guards := by
  first | rfl | simp [Around.under, Code.isGuard, Code.isCaller, Code.isCreation, guardIds]
section
variable {X : Cx} {k : Cn} {W : WX} {n c : Nat} {o a : Expr} {es : List Expr} {kws : List Keyword} {x : Str} {p pos apos : Pos} {fn : List D → Sto → Res D} {m mk mo : EM (List D)} {lv : Nat} {f : Addr} {fd : FuncData} {ps ks : List Str} {me : EM D}
theorem c_call0 (F : FnG X.prog X.w X.K X.mg X.base lv f fd ps (spM k fn)) (gu : X.A.guards = some []) (hr : Room lv X.A) (tk : Takes X W) (hm : X.mg x = some (.ref f)) (hk : PySem.W.keepIn X.K (.ref f) = true) (hb : Binds X.K fd ps [])
    (hg : Gl X x := by rfl) (hdb : (x == ("__debug__" : Str)) = false := by decide) : PE X (.Call (.Name x p) [] [] pos) (tI k W (eCall fn eNil)) := by
  refine ⟨fun pins s σ H Q I h => wpAny_Call_Name_kw (ld_glob I hg hm ?_ hdb)⟩
  obtain ⟨ρ, S, e, sim, sr, h⟩ := h
  exact PySem.W.callWith_K0 I.kIn hk (runG (us := []) (vs := []) F gu hr hb tk I .nil ⟨ρ, S, [], sim, .nil, h⟩)
/-- o.m(..) -/
@[reducible] def eMeth (c : Nat) (nm : Str) (fn : List D → Sto → Res D) (mo : EM D) (m : EM (List D)) : EM D := bindE mo fun o => fun e S => match insAt S c o with
  | some (_, fs) => match fs.lookup nm with
    | none => bindE m (fun ds => fun _ S => fn (o :: ds) S) e S
    | some _ => .bad
  | none => .bad
theorem meth_read {nm : Str} {σ : L2.St} {H : Hp} {Q : VK} (h : tI k W (eMeth c nm fn me m) σ H Q) : tI k W me σ H fun x H1 => ∃ a dx gs, x = .ref a ∧ H1 a = some (.ins (k.cl c) dx gs) ∧ gs.lookup nm = none ∧ tL k W m σ H1 fun vs H2 => spM k fn (x :: vs) H2 Q (WE W σ) := by
  obtain ⟨ρ, S, e, sim, sr, h⟩ := h
  refine At.bind sim sr h fun v d ρ1 S1 H1 x1 sim1 sr1 r1 h1 => ?_
  split at h1
  · rename_i l fs q
    obtain ⟨a, dx, gs, rfl, hl, e1, rf⟩ := ins_rep sim1 r1 q
    split at h1
    · rename_i hn
      refine ⟨a, dx, gs, rfl, e1, rf.lookN hn, At.bind sim1 sr1 h1 fun vs ds ρ2 S2 H2 x2 sim2 sr2 r2 h2 => ?_⟩
      exact ⟨ρ2, S2, d :: ds, sim2, .cons (r1.ext sim1 x2) r2, h2⟩
    · exact (show False from h1).elim
  · exact (show False from h1).elim
theorem c_meth {nm : Str} {pl : Sem Bool} (he : PE X o (tI k W me)) (C : Cls k.K (k.cl c)) (hm : Meth k.K (k.cl c) nm f) (F : FnG X.prog X.w X.K X.mg X.base lv f fd ps (spM k fn)) (gu : X.A.guards = some []) (hr : Room lv X.A) (tk : Takes X W) (hb : Binds X.K fd ps []) (ha : PA X (a :: es) (tL k W m)) (hK : k.K = X.K := by rfl)
    (hst : starEach (a :: es) X.env = (false, eval a X.env) :: starEach es X.env := by rfl) (hpl : (backTo pos (starEach es X.env)).any (·.1) = false := by rfl)
    (ht : eval (.Call (.Attribute o nm apos) (a :: es) [] pos) X.env = (do
      let ov ← eval o X.env
      standAt apos.atName
      let (f, first) ← holding [ov] (getMethod ov nm pl)
      callWith pos f first (backTo pos (starEach (a :: es) X.env)) (backToKw pos (keywordEach [] X.env))) := by rfl) : PE X (.Call (.Attribute o nm apos) (a :: es) [] pos) (tI k W (eMeth c nm fn me m)) := by
  rw [hK] at C hm
  refine ⟨fun pins s σ H Q I h => PySem.W.methodCall_KW (pl := pl) (thn (he.run pins s σ H _ I (meth_read h)) fun u s1 ⟨y, H1, J, ry, b, dx, gs, ey, eb, ln, q⟩ => ?_) ht⟩
  subst ey
  obtain rfl : u = Value.ref b := ry
  refine getmeth_ok J eb C hm ln (PySem.W.callWith_K (first := [.ref b]) (h₀ := X.base) I.ok.mod.kin hm.kp (thn (ha.run pos pins s1 σ H1 _ J q) fun us s2 ⟨vs, H2, J2, r, q2⟩ => ⟨J2.kIn, ?_⟩) hst hpl)
  exact runG (us := .ref b :: us) (vs := .ref b :: vs) F gu hr hb tk J2 (.cons rfl r) q2
theorem c_meth0 {nm : Str} {pl : Sem Bool} (he : PE X o (tI k W me)) (C : Cls k.K (k.cl c)) (hm : Meth k.K (k.cl c) nm f) (F : FnG X.prog X.w X.K X.mg X.base lv f fd ps (spM k fn)) (gu : X.A.guards = some []) (hr : Room lv X.A) (tk : Takes X W) (hb : Binds X.K fd ps []) (hK : k.K = X.K := by rfl)
    (ht : eval (.Call (.Attribute o nm apos) [] [] pos) X.env = (do
      let ov ← eval o X.env
      standAt apos.atName
      let (f, first) ← holding [ov] (getMethod ov nm pl)
      callWith pos f first (backTo pos (starEach [] X.env)) (backToKw pos (keywordEach [] X.env))) := by rfl) : PE X (.Call (.Attribute o nm apos) [] [] pos) (tI k W (eMeth c nm fn me eNil)) := by
  rw [hK] at C hm
  refine ⟨fun pins s σ H Q I h => PySem.W.methodCall_KW (pl := pl) (thn (he.run pins s σ H _ I (meth_read h)) fun u s1 ⟨y, H1, J, ry, b, dx, gs, ey, eb, ln, q⟩ => ?_) ht⟩
  subst ey
  obtain rfl : u = Value.ref b := ry
  refine getmeth_ok J eb C hm ln (PySem.W.callWith_K0 (first := [.ref b]) J.kIn hm.kp ?_)
  refine runG (us := [.ref b]) (vs := [.ref b]) F gu hr hb tk J (.cons rfl .nil) ?_
  obtain ⟨ρ, S, e, sim, sr, h⟩ := q
  exact h [] H1 ρ Ext.refl sim .nil
/-- the values of keywords -/
theorem k_nil : PK X [] (tL k W eNil) := ⟨fun p pins s σ H Q I ⟨ρ, S, e, sim, sr, h⟩ => pk_nil.run p pins s σ H Q I (h [] H ρ Ext.refl sim .nil)⟩
theorem k_cons {nm : Option Str} {kpos : Pos} (ha : PE X a (tI k W me)) (hr : PK X kws (tL k W mk)) : PK X (⟨nm, a, kpos⟩ :: kws) (tL k W (eCons me mk)) := ⟨fun p pins s σ H Q I ⟨ρ, S, e, sim, sr, h⟩ => (pk_cons ha hr).run p pins s σ H Q I (by
  refine At.bind sim sr h fun v1 d1 ρ1 S1 H1 x1 sim1 sr1 r1 h1 => ?_
  refine At.bind sim1 sr1 h1 fun v2 d2 ρ2 S2 H2 x2 sim2 sr2 r2 h2 => ?_
  exact h2 _ H2 ρ2 Ext.refl sim2 (.cons (r1.ext sim1 x2) r2))⟩
/-- C(.., k = v, ..) -/
@[reducible] def mkRes (l : Nat) : Res D → Res D
  | .ok .non S => .ok (.loc l) S
  | .ok _ _ => .bad
  | .ex x S => .ex x S
  | .bad => .bad
@[reducible] def eMake (c n q : Nat) (fn : List D → Sto → Res D) (m mk : EM (List D)) : EM D := bindE m fun ds => bindE mk fun zs => fun _ S => if ds.length = n ∧ zs.length = q then mkRes S.length (fn (.loc S.length :: (ds ++ zs)) (S ++ [.ins c []])) else .bad
theorem make_read {σ : L2.St} {H : Hp} {Q : VK} {q : Nat} (h : tI k W (eMake c n q fn m mk) σ H Q) : tMakeK (k.cl c) n q (spM k fn) (fun vs zs => vs ++ zs) (WE W σ) (tL k W m) (tL k W mk) σ H Q := by
  obtain ⟨ρ, S, e, sim, sr, h⟩ := h
  refine At.bind sim sr h fun v1 d1 ρ1 S1 H1 x1 sim1 sr1 r1 h1 => ?_
  refine At.bind sim1 sr1 h1 fun v2 d2 ρ2 S2 H2 x2 sim2 sr2 r2 h2 => ?_
  split at h2
  · rename_i hl
    refine ⟨by rw [← r1.length]; exact hl.1, by rw [← r2.length]; exact hl.2, fun y dx hy hdx ne => ?_⟩
    have sm : Same H2 (upd H2 dx (.own y)) := same_new hdx
    have hy' : upd H2 dx (.own y) y = none := by rw [upd_ne (Ne.symm ne)]; exact hy
    obtain ⟨x3, sim3⟩ := (sim2.same sm).alloc (o := .ins c []) (u := .ins (k.cl c) dx []) hy' ⟨dx, [], upd_same, .nil⟩
    have xx : Ext ρ2.length ρ2 (ρ2.push y) H2 (upd (upd H2 dx (.own y)) y (.ins (k.cl c) dx [])) := (Ext.same sim2 sm).tr x3
    refine ⟨ρ2.push y, S2 ++ [.ins c []], .loc S2.length :: (d1 ++ d2), sim3, .cons (.loc (rho_last sim2)) (((r1.ext sim1 x2).append r2).ext sim2 xx), ?_⟩
    have h3 := At.ext xx h2
    cases q : fn (.loc S2.length :: (d1 ++ d2)) (S2 ++ [.ins c []]) with
    | bad => rw [q] at h3; exact h3
    | ex z S4 => rw [q] at h3; exact h3
    | ok d S4 =>
      rw [q] at h3
      cases d with
      | non =>
        intro v H4 ρ4 x4 sim4 r4
        cases r4
        refine ⟨rfl, h3 _ H4 ρ4 x4 sim4 (.loc (x4.old _ _ ?_ (rho_last sim2)))⟩
        have := (List.getElem?_eq_some_iff.mp (rho_last (p := y) sim2)).1
        exact this
      | _ => exact (show False from h3).elim
  · exact (show False from h2).elim
theorem runMk {pins : List (Addr × Obj)} {σ : L2.St} {H : Hp} {s : Shared} {Q : VK} {us ws : List Value} {vs zs : List V} (M : Mk X.K (k.cl c) f) (F : FnG X.prog X.w X.K X.mg X.base lv f fd ps (spM k fn)) (gu : X.A.guards = some []) (hr : Room (lv + 1) X.A) (hb : KBn X.K fd ps (n + 1) ks (fun us ws => us ++ ws) (fun us ws => us ++ ws)) (tk : Takes X W)
    (I : Inv X pins σ H s) (r : Vals vs us) (rz : Vals zs ws) (l1 : vs.length = n) (l2 : zs.length = ks.length)
    (h : ∀ x dx, H x = none → H dx = none → dx ≠ x → spM k fn (.ref x :: vs ++ zs) (upd (upd H dx (.own x)) x (.ins (k.cl c) dx [])) (fun v H2 => v = .non ∧ Q (.ref x) H2) (WE W σ)) :
    wpAny (model X.prog X.w) X.A (call (.ref (k.cl c)) us (ks.zip ws)) (EP X pins σ Q) X.xe s := by
  have want := h (s.heap.objs.size + 1) s.heap.objs.size (I.hok.fresh (Nat.le_succ _)) (I.hok.fresh (Nat.le_refl _)) (Nat.ne_of_lt (Nat.lt_succ_self _))
  have J := Inv.made (C := k.cl c) I
  have ra : Vals (V.ref (s.heap.objs.size + 1) :: vs) (Value.ref (s.heap.objs.size + 1) :: us) := .cons rfl r
  have rb := hb.rel ra rz
  have n1 : (Value.ref (s.heap.objs.size + 1) :: us).length = n + 1 := by rw [List.length_cons, ← r.length, l1]
  have go := F.run (X.A.under (.builtin "type.__call__" ⟨.ref (k.cl c) :: us, ks.zip ws⟩)) X.stack _ _ ⟨Value.ref (s.heap.objs.size + 1) :: us, ks.zip ws⟩ (Value.ref (s.heap.objs.size + 1) :: us ++ ws) _ _ (WE W σ) (by rw [make_guards]; exact gu) (hr.make (k.cl c) us (ks.zip ws)) (J.env0.make (k.cl c) us (ks.zip ws)) (hb.to _ (Value.ref (s.heap.objs.size + 1) :: us) ws J.kIn n1 (rz.length.symm.trans l2)) rb want
  refine wpAny_call (make_map (f := f) I.kIn M.makes M.init (beq_iff_eq.mp M.fn) (codeAny_mono go fun res s' hq => ?_))
  match res, hq with
  | .error e, hq => exact passAt tk σ pins _ _ e s' J hq
  | .ok (.ret u), hq =>
    obtain ⟨v, H', J3, rv, ev, q3⟩ := J.after hq
    subst ev
    exact ⟨rv, ⟨V.ref (s.heap.objs.size + 1), H', J3, rfl, q3⟩⟩
  | .ok .next, hq => exact False.elim hq
  | .ok .brk, hq => exact False.elim hq
  | .ok .cont, hq => exact False.elim hq
theorem c_make (M : Mk k.K (k.cl c) f) (F : FnG X.prog X.w X.K X.mg X.base lv f fd ps (spM k fn)) (gu : X.A.guards = some []) (hr : Room (lv + 1) X.A) (tk : Takes X W) (hm : X.mg x = some (.ref (k.cl c))) (hb : KBn X.K fd ps (n + 1) ks (fun us ws => us ++ ws) (fun us ws => us ++ ws)) (ha : PA X (a :: es) (tL k W m)) (hkw : PK X kws (tL k W mk)) (hK : k.K = X.K := by rfl) (hg : Gl X x := by rfl)
    (hall : (backToKw pos (keywordEach kws X.env)).all (·.1.isSome) = true := by rfl) (hks : (backToKw pos (keywordEach kws X.env)).filterMap (·.1) = ks := by rfl) (hdb : (x == ("__debug__" : Str)) = false := by decide)
    (he : starEach (a :: es) X.env = (false, eval a X.env) :: starEach es X.env := by rfl) (hpl : ((backTo pos (starEach (a :: es) X.env)).any (·.1) || (backToKw pos (keywordEach kws X.env)).any (·.1.isNone)) = false := by rfl) :
    PE X (.Call (.Name x p) (a :: es) kws pos) (tI k W (eMake c n ks.length fn m mk)) := by
  rw [hK] at M
  refine ⟨fun pins s σ H Q I h => wpAny_Call_Name_kw (ld_glob I hg hm ?_ hdb)⟩
  refine PySem.W.callWith_KW (h₀ := X.base) I.ok.mod.kin M.kp hall (thn (ha.run pos pins s σ H _ I (make_read h)) fun us s1 ⟨vs, H1, J1, r, q⟩ => ?_) hpl he
  refine thn (hkw.run pos pins s1 σ H1 _ J1 q) fun ws s2 ⟨zs, H2, J2, rz, l1, l2, q2⟩ => ⟨J2.kIn, ?_⟩
  rw [hks]
  exact runMk M F gu hr hb tk J2 r rz l1 l2 q2
/-- how the written arguments bind: all of them given, in the parameters' order -/
theorem kb_of {K : PySem.W.Frag} {y qual : Str} {st : Stmt} {j : Nat} (F : L2.Fun K y qual st f fd)
    (h : ∀ (kV doc pm : Value) (an : Option Addr) (cdv ct : Value) (us ws : List Value), us.length = j → ws.length = ks.length → bindArgs (PySem.W.fnOf y qual (defArgs st) (defBody st) (defScope st) .none kV doc pm an cdv ct) ⟨us, ks.zip ws⟩ = pure (ps.zip (us ++ ws))) : KBn K fd ps j ks (fun us ws => us ++ ws) (fun us ws => us ++ ws) := by
  obtain ⟨oc, od, kV, doc, pm, an, cdv, ct, osl, rfl, lk, hcd⟩ := F.ex
  exact ⟨fun s us ws _ l1 l2 => .of_eq (h kV doc pm an cdv ct us ws l1 l2), fun r1 r2 => r1.append r2⟩
end
end Sh
set_option Elab.async false
set_option linter.all false
set_option maxRecDepth 100000
set_option maxHeartbeats 4000000
namespace Sh
open PySem PySem.Spec PyProof.Rows L2

/-! ### d.get, d.pop, del d[k], k in d -/
@[reducible] def dicOf (S : Sto) : D → Option (List (Key × D))
  | .dic kvs => some kvs
  | .loc l => match S[l]? with
    | some (.dic kvs) => some kvs
    | _ => none
  | _ => none
@[reducible] def locDic (S : Sto) : D → Option (Nat × List (Key × D))
  | .loc l => match S[l]? with
    | some (.dic kvs) => some (l, kvs)
    | _ => none
  | _ => none
section
variable {k : Cn} {ρ : Rho} {S : Sto} {H : Hp}
theorem dic_rep {d : D} {v : V} {kvs : List (Key × D)} (m : Sim k ρ S H) (r : Rep k ρ H d v) (h : dicOf S d = some kvs) : ∃ a ws, v = .ref a ∧ H a = some (.dK ws) ∧ RepK k ρ H kvs ws := by
  cases r with
  | @dic a ws _ e _ rk => cases h; exact ⟨a, ws, rfl, e, rk⟩
  | @loc l a hl =>
    simp only [dicOf] at h
    split at h
    · rename_i kv q
      cases h
      obtain ⟨ws, e, rk⟩ := m.at_ l a _ hl q
      exact ⟨a, ws, rfl, e, rk⟩
    · cases h
  | _ => cases h
theorem locDic_rep {d : D} {v : V} {l : Nat} {kvs : List (Key × D)} (m : Sim k ρ S H) (r : Rep k ρ H d v) (h : locDic S d = some (l, kvs)) : ∃ a ws, v = .ref a ∧ ρ.t[l]? = some (some a) ∧ H a = some (.dK ws) ∧ RepK k ρ H kvs ws := by
  cases r with
  | @loc l' a hl =>
    simp only [locDic] at h
    split at h
    · rename_i kv q
      cases h
      obtain ⟨ws, e, rk⟩ := m.at_ _ a _ hl q
      exact ⟨a, ws, rfl, hl, e, rk⟩
    · cases h
  | _ => cases h
theorem look_rep {kvs : List (Key × D)} {ws : List (Key × V)} {x : Key} {d : D} {z : V} (r : RepK k ρ H kvs ws) (rz : Rep k ρ H d z) : Rep k ρ H ((dLook kvs x).getD d) ((valV ws x).getD z) := by
  obtain ⟨h1, h2⟩ := RepK.look (x := x) r
  cases q : dLook kvs x with
  | none => rw [h2 q]; exact rz
  | some d' => obtain ⟨v, e, rv⟩ := h1 d' q; rw [e]; exact rv
end
section
variable {X : Cx} {k : Cn} {W : WX} {n : Nat} {o i f : Expr} {apos cpos pos tpos : Pos} {mo mi mf : EM D}
@[reducible] def eGet1 (mo mi : EM D) : EM D := bindE mo fun o => fun e S => match dicOf S o with
  | none => .bad
  | some _ => bindE mi (fun i => fun _ S => match dicOf S o with
    | none => .bad
    | some kvs => match toKey i with
      | none => .bad
      | some x => .ok ((dLook kvs x).getD .non) S) e S
@[reducible] def eGet2 (mo mi mf : EM D) : EM D := bindE mo fun o => fun e S => match dicOf S o with
  | none => .bad
  | some _ => bindE mi (fun i => bindE mf fun z => fun _ S => match dicOf S o with
    | none => .bad
    | some kvs => match toKey i with
      | none => .bad
      | some x => .ok ((dLook kvs x).getD z) S) e S
@[reducible] def ePop2 (mo mi mf : EM D) : EM D := bindE mo fun o => fun e S => match dicOf S o with
  | none => .bad
  | some _ => bindE mi (fun i => bindE mf fun z => fun _ S => match locDic S o with
    | none => .bad
    | some (l, kvs) => match toKey i with
      | none => .bad
      | some x => match dLook kvs x with
        | some d => .ok d (S.set l (.dic (dropD kvs x)))
        | none => .ok z S) e S
theorem c_get1 (hu : X.A.units + 1 < cLine) (ho : PE X o (tI k W mo)) (hi : PE X i (tI k W mi)) (m : M1 X o "get" apos i cpos := by exact ⟨rfl, rfl, rfl, rfl⟩) : PE X (.Call (.Attribute o "get" apos) [i] [] cpos) (tI k W (eGet1 mo mi)) :=
  (pe_dget1 hu ho hi m).imp fun σ H Q ⟨ρ, S, e, sim, sr, h⟩ => by
  refine At.bind sim sr h fun v d ρ1 S1 H1 x1 sim1 sr1 r1 h1 => ?_
  split at h1
  · exact (show False from h1).elim
  · rename_i kvs0 q0
    obtain ⟨a, ws, rfl, e1, rk⟩ := dic_rep sim1 r1 q0
    refine ⟨a, rfl, .inl ⟨ws, .inl e1⟩, At.bind sim1 sr1 h1 fun v2 d2 ρ2 S2 H2 x2 sim2 sr2 r2 h2 => ?_⟩
    split at h2
    · exact (show False from h2).elim
    · rename_i kvs q
      split at h2
      · exact (show False from h2).elim
      · rename_i x hx
        obtain ⟨a', ws', ea, e2, rk2⟩ := dic_rep sim2 (r1.ext sim1 x2) q
        cases ea
        rw [r2.key hx]
        exact ⟨_, DGet.k e2, h2 _ H2 ρ2 Ext.refl sim2 (look_rep rk2 .non)⟩
theorem c_get2 (hu : X.A.units + 1 < cLine) (ho : PE X o (tI k W mo)) (hi : PE X i (tI k W mi)) (hf : PE X f (tI k W mf)) (m : M2 X o "get" apos i f cpos := by exact ⟨rfl, rfl, rfl, rfl⟩) : PE X (.Call (.Attribute o "get" apos) [i, f] [] cpos) (tI k W (eGet2 mo mi mf)) :=
  (pe_dget2 hu ho hi hf m).imp fun σ H Q ⟨ρ, S, e, sim, sr, h⟩ => by
  refine At.bind sim sr h fun v d ρ1 S1 H1 x1 sim1 sr1 r1 h1 => ?_
  split at h1
  · exact (show False from h1).elim
  · rename_i kvs0 q0
    obtain ⟨a, ws, rfl, e1, rk⟩ := dic_rep sim1 r1 q0
    refine ⟨a, rfl, .inl ⟨ws, .inl e1⟩, At.bind sim1 sr1 h1 fun v2 d2 ρ2 S2 H2 x2 sim2 sr2 r2 h2 => ?_⟩
    refine At.bind sim2 sr2 h2 fun v3 d3 ρ3 S3 H3 x3 sim3 sr3 r3 h3 => ?_
    split at h3
    · exact (show False from h3).elim
    · rename_i kvs q
      split at h3
      · exact (show False from h3).elim
      · rename_i x hx
        obtain ⟨a', ws', ea, e2, rk2⟩ := dic_rep sim3 ((r1.ext sim1 x2).ext sim2 x3) q
        cases ea
        rw [r2.key hx]
        exact ⟨_, DGet.k e2, h3 _ H3 ρ3 Ext.refl sim3 (look_rep rk2 r3)⟩
theorem c_pop2 (ho : PE X o (tI k W mo)) (hi : PE X i (tI k W mi)) (hf : PE X f (tI k W mf)) (m : M2 X o "pop" apos i f cpos := by exact ⟨rfl, rfl, rfl, rfl⟩) : PE X (.Call (.Attribute o "pop" apos) [i, f] [] cpos) (tI k W (ePop2 mo mi mf)) :=
  (pe_dpop2 ho hi hf m).imp fun σ H Q ⟨ρ, S, e, sim, sr, h⟩ => by
  refine At.bind sim sr h fun v d ρ1 S1 H1 x1 sim1 sr1 r1 h1 => ?_
  split at h1
  · exact (show False from h1).elim
  · rename_i kvs0 q0
    obtain ⟨a, ws, rfl, e1, rk⟩ := dic_rep sim1 r1 q0
    refine ⟨a, rfl, .inl ⟨ws, .inl e1⟩, At.bind sim1 sr1 h1 fun v2 d2 ρ2 S2 H2 x2 sim2 sr2 r2 h2 => ?_⟩
    refine At.bind sim2 sr2 h2 fun v3 d3 ρ3 S3 H3 x3 sim3 sr3 r3 h3 => ?_
    split at h3
    · exact (show False from h3).elim
    · rename_i l kvs q
      split at h3
      · exact (show False from h3).elim
      · rename_i x hx
        obtain ⟨a', ws', ea, hl, e2, rk2⟩ := locDic_rep sim3 ((r1.ext sim1 x2).ext sim2 x3) q
        cases ea
        rw [r2.key hx]
        obtain ⟨k1, k2⟩ := RepK.look (x := x) rk2
        refine ⟨ws', x, e2, rfl, fun v hv => ?_, fun hv => ?_⟩
        · cases q2 : dLook kvs x with
          | none => rw [k2 q2] at hv; cases hv
          | some d' =>
            rw [q2] at h3
            obtain ⟨v', ev, rv⟩ := k1 d' q2
            rw [ev] at hv; cases hv
            obtain ⟨x4, m'⟩ := sim3.setD hl (fun _ _ z => by rw [e2] at z; cases z) (rk2.drop (x := x))
            exact h3 _ _ ρ3 x4 m' (rv.ext sim3 x4)
        · cases q2 : dLook kvs x with
          | none => rw [q2] at h3; exact h3 _ H3 ρ3 Ext.refl sim3 r3
          | some d' =>
            obtain ⟨v', ev, rv⟩ := k1 d' q2
            rw [ev] at hv; cases hv
/-- del o[i] -/
@[reducible] def sDel (mo mi : EM D) : SM := sBind mo fun o => sBind mi fun i => fun e S => match locDic S o with
  | none => .bad
  | some (l, kvs) => match toKey i with
    | none => .bad
    | some x => match dLook kvs x with
      | some _ => .nx e (S.set l (.dic (dropD kvs x)))
      | none => .bad
theorem s_del (ho : PE X o (tI k W mo)) (hi : PE X i (tI k W mi)) : PS X (.Delete [.Subscript o i tpos] pos) (tS k W n (sDel mo mi)) :=
  (ps_ddel ho hi).imp fun D σ H ⟨ρ, S, e, hn, sim, sr, h⟩ => by
  refine AtS.bind hn sim sr h fun v1 d1 ρ1 S1 H1 hn1 x1 sim1 sr1 r1 h1 => ?_
  refine AtS.bind hn1 sim1 sr1 h1 fun v2 d2 ρ2 S2 H2 hn2 x2 sim2 sr2 r2 h2 => ?_
  split at h2
  · exact (show False from h2).elim
  · rename_i l kvs q
    split at h2
    · exact (show False from h2).elim
    · rename_i x hx
      obtain ⟨a, ws, rfl, hl, e2, rk⟩ := locDic_rep sim2 (r1.ext sim1 x2) q
      split at h2
      · rename_i d' q2
        obtain ⟨v', ev, rv⟩ := (RepK.look (x := x) rk).1 d' q2
        obtain ⟨x4, m'⟩ := sim2.setD hl (fun _ _ z => by rw [e2] at z; cases z) (rk.drop (x := x))
        exact ⟨a, ws, x, rfl, e2, r2.key hx, by rw [ev]; rfl, h2 σ _ ρ2 x4 m' (sr2.ext sim2 x4)⟩
      · exact (show False from h2).elim
/-- i in o of a dict -/
@[reducible] def eInD (b : Bool) (mi mo : EM D) : EM D := bindE mi fun i => bindE mo fun o => fun _ S => match dicOf S o with
  | none => .bad
  | some kvs => match toKey i with
    | none => .bad
    | some x => .ok (.bl (xor b (dLook kvs x).isSome)) S
end
end Sh
set_option Elab.async false
set_option linter.all false
set_option maxRecDepth 100000
set_option maxHeartbeats 4000000

/-! ### set(xs) of a list of ints -/
namespace L2
open PySem PySem.Spec PyProof.Rows
section
variable {P : Program} {w : World} {A : Around} {E : Value → Shared → Prop} {s : Shared}
/-- the set of the first i of the numbers -/
def SetUp (w : World) (ns : List Int) (i : Nat) (h : Heap) (S : Addr) : Prop := ∃ f n, SetR w h S f n ∧ n ≤ i ∧ ∀ k, f k = true ↔ k ∈ ns.take i
theorem sh_set_loop {I : Addr} {fp wr : List Addr} {G : Array GenState → Array GenState → Prop} {n : Nat} {Pv : Nat → Value → Prop} {St : Nat → Shared → Prop} {R : Result → Shared → Prop}
    (Wk : WalksS P w A.in1 I fp wr G n Pv St) (S : Addr) (hSf : S ∉ fp) (ns : List Int) (hn : n = ns.length) (hb : n + 1 < scanBound) (hval : ∀ i v, Pv i v → ∃ k t, ns[i]? = some k ∧ v = .int k t) :
    ∀ (k i : Nat) (s : Shared), n - i = k → i ≤ n → St i s → SetUp w ns i s.heap S → (∀ s', Moved (S :: wr) G s s' → SetUp w ns n s'.heap S → R (.ok (.ret .none)) s') →
      codeAny (model P w) A (.builtin "set.update.loop" ⟨[.ref S, .ref I], []⟩) R s := by
  have off : S ∉ wr := fun h => hSf (Wk.sub _ h)
  have more : ∀ b ∈ wr, b ∈ S :: wr := fun b hb => List.mem_cons_of_mem _ hb
  intro k
  induction k with
  | zero =>
    intro i s hk' hi hst ⟨f, m, hS, hm, hf⟩ hR
    obtain rfl : i = n := by omega
    refine codeAny_builtin F.entry_set_update_loop ?_
    rw [Around.under_plainId F.plain_set_update_loop _]
    show wpAny _ A.in1 (pyNext (.ref I) >>= _) _ _ s
    refine wpAny_bind (Wk.done s _ _ hst fun s' mv => ?_)
    show wpAny _ A.in1 (ret Value.none) _ _ s'
    exact wpAny_pure (hR s' (mv.mono more) ⟨f, m, hS.at fun o e => mv.heap S o off e, hm, hf⟩)
  | succ k ih =>
    intro i s hk' hi hst ⟨f, m, hS, hm, hf⟩ hR
    have hlt : i < n := by omega
    refine codeAny_builtin F.entry_set_update_loop ?_
    rw [Around.under_plainId F.plain_set_update_loop _]
    show wpAny _ A.in1 (pyNext (.ref I) >>= _) _ _ s
    refine wpAny_bind (Wk.item i s _ _ hlt hst fun v s' hP hst' mv => ?_)
    obtain ⟨x, t, hx, rfl⟩ := hval i v hP
    have hS' : SetR w s'.heap S f m := hS.at fun o e => mv.heap S o off e
    show wpAny _ A.in1 (holding [Value.int x t] (setAdd S (.int x t)) >>= _) _ _ s'
    refine wpAny_bind (wpAny_holding ?_)
    unfold setAdd
    refine wpAny_holding ?_
    refine wpAny_bind ((intKind P w).pyHash (k := x) (intKind_is _ _ _ _) ?_)
    refine setR_add_hashed (s := { s' with toks := s'.toks + 1 }) hS' (by omega) fun h' sb hS2 => ?_
    have up : SetUp w ns (i + 1) h' S := by
      refine ⟨_, _, hS2, ?_, fun j => ?_⟩
      · split <;> omega
      · rw [List.take_succ, hx]
        simp only [Bool.or_eq_true, decide_eq_true_eq, hf, Option.toList_some, List.mem_append, List.mem_singleton]
    refine wpAny_pure ⟨plainId_quiet F.plain_set_update_loop _, ih (i + 1) _ (by omega) hlt (Wk.frame _ s' _ _ hst' (Nat.le_succ _) fun b hb o e => ?_) up fun s'' mv2 up2 => ?_⟩
    · rw [sb.2 b (fun h : b = S => hSf (by rw [← h]; exact hb))]; exact e
    · refine hR s'' (Moved.trans Wk.gtrans ((mv.mono more).then_heap (Nat.le_succ _) fun b o hb e => ?_) mv2) up2
      rw [sb.2 b (fun h : b = S => hb (by rw [h]; exact List.mem_cons_self))]; exact e
abbrev set0 (w : World) : Obj := { cls := .type "set", dict := none, data := .set #[] 0 (.fresh 0 0 (!w.params.followText "set-order")) }
/-- set(xs) of a list of ints -/
theorem sh_set_list {l : Addr} {its : Array Value} (ns : List Int) {Q : Value → Shared → Prop} (hh : A.handled = none) (hl : s.heap.IsList l its) (hit : IntsAre its.toList ns) (hb : ns.length + 1 < scanBound)
    (h : ∀ (h' : Heap) (tk : Nat), SetUp w ns ns.length h' s.heap.objs.size → (∀ b o, s.heap.get? b = some o → h'.get? b = some o) → Q (.ref s.heap.objs.size) { s with heap := h', toks := tk }) :
    wpAny (model P w) A (call (.type "set") [.ref l]) Q E s := by
  have zn : its.size = ns.length := by
    have q := IntsAre.length hit
    rwa [Array.length_toList] at q
  obtain ⟨c, tl, hmro⟩ := F.called_set.mro
  have hmade := F.called_set.made
  have hsub := F.called_set.sub
  refine wpAny_call (codeAny_of_tree ?_)
  show wpAny _ _ (callAny (.type "set") _) _ _ _
  refine wpAny_pure ⟨Code.quiet_builtin _ (by decide +kernel), codeAny_builtin F.entry_type_call ?_⟩
  rw [Around.under_plain (weight_type_call_type "set" [.ref l] []) rfl]
  have n1 := F.called_set.notType
  have n2 := F.called_set.canCreate
  have n3 := F.typeCall_set_1 (.ref l)
  repeat (any_goals (first | assumption | wp_step))
  refine codeAny_mono (code_set_led1 (.ref l) (E := E) (Q₁ := fun obj s₁ => obj = .ref s.heap.objs.size ∧ s₁ = { s with heap := s.heap.push (set0 w) }) ⟨rfl, rfl⟩) fun r s₁ hr => ?_
  match r, hr with
  | .error e, hr => exact hr
  | .ok .next, hr => exact hr.elim
  | .ok .brk, hr => exact hr.elim
  | .ok .cont, hr => exact hr.elim
  | .ok (.ret obj), hr =>
    obtain ⟨rfl, rfl⟩ := hr
    have at0 : (s.heap.push (set0 w)).get? s.heap.objs.size = some (set0 w) := Heap.get?_push_size _ rfl
    have ty0 : Shared.TypeIs { s with heap := s.heap.push (set0 w) } (.ref s.heap.objs.size) "set" := ⟨_, at0, rfl⟩
    have i1 := F.called_set.init.lookup
    have i2 := F.called_set.init.bind (.ref s.heap.objs.size)
    repeat (any_goals (first | assumption | wp_step))
    refine codeAny_mono (codeAny_call_builtin (R := wants (fun r s₂ => r = .none ∧ ∃ h' tk, s₂ = { s with heap := h', toks := tk } ∧ SetUp w ns ns.length h' s.heap.objs.size ∧ ∀ b o, s.heap.get? b = some o → h'.get? b = some o) E) F.called_set.init.plain F.entry_set_init (check_set_init_1 ty0 ?_)) fun r₂ s₂ hr₂ => ?_
    · obtain ⟨⟨oc, od, odt, osl⟩, hol, hcl, nl, hdl⟩ := hl
      simp only at hcl hdl
      subst hcl; subst hdl
      have hol' : (s.heap.push (set0 w)).get? l = some { cls := .type "list", dict := od, data := .seq its nl, slots := osl } := Heap.get?_push_of_some _ hol
      have u1 := F.sub_list_set
      have u2 := F.sub_list_frozenset
      have u3 : (Value.type "list" == Value.type "dict") = false := by decide
      have hl1 : (s.heap.push (set0 w)).IsList l its := ⟨_, hol', rfl, nl, rfl⟩
      unfold Builtin.«set.__init__» noKeywords Builtin.Frozenset.updateFrom
      generalize hPI : pyIter = PI
      wp_walk
      subst hPI
      refine wpAny_pyIter_list hl1 (wpAny_bind (wpAny_runValue ?_))
      have lS : l < s.heap.objs.size := Heap.lt_size hol
      have hh3 : A.in1.in1.in1.handled = none := by simp [hh]
      have sz1 : (s.heap.push (set0 w)).objs.size = s.heap.objs.size + 1 := Heap.size_push ..
      have neI : l ≠ (s.heap.push (set0 w)).objs.size := by rw [sz1]; exact Nat.ne_of_lt (Nat.lt_succ_of_lt lS)
      have offS : s.heap.objs.size ∉ [(s.heap.push (set0 w)).objs.size, l] := by
        rw [sz1]; simp only [List.mem_cons, List.mem_singleton, List.not_mem_nil, or_false, not_or]
        exact ⟨Nat.ne_of_lt (Nat.lt_succ_self _), Nat.ne_of_gt lS⟩
      have vals : ∀ (i : Nat) (v : Value), its[i]? = some v → ∃ k t, ns[i]? = some k ∧ v = .int k t := fun i v hv => by
        have hi : i < ns.length := by rw [← zn]; exact (Array.getElem?_eq_some_iff.mp hv).1
        obtain ⟨t, e⟩ := PyProof.Rows.IntsAre.int_at hit i v (by rw [Array.getElem?_toList]; exact hv)
        refine ⟨ns[i], t, List.getElem?_eq_getElem hi, ?_⟩
        rw [e, List.getD_eq_getElem?_getD, List.getElem?_eq_getElem hi] <;> rfl
      refine sh_set_loop ((Walks.list hh3 _ l neI its).toS) s.heap.objs.size offS ns zn (by rw [zn]; exact hb) vals (its.size - 0) 0 _ (by omega) (Nat.zero_le _) ⟨⟨_, Heap.get?_push_size _ rfl, rfl, rfl⟩, (hl1.push _)⟩ ?hS0 ?hR
      case hS0 =>
        refine ⟨fun _ => false, 0, (setR_fresh w).at fun o e => Heap.get?_push_of_some _ e, Nat.le_refl 0, fun k => ?_⟩
        simp
      case hR =>
        intro s' mv up
        obtain ⟨h', g2, d', tk', os'⟩ := s'
        obtain rfl : g2 = s.gens := mv.gens
        obtain rfl : d' = s.drawn := mv.drawn
        obtain rfl : os' = s.os := mv.os
        show wpAny _ _ _ _ _ _
        refine wpAny_pure ?_
        show wpAny _ _ (ret Value.none) _ _ _
        rw [zn] at up
        refine wpAny_pure ⟨rfl, h', tk', rfl, up, fun b o e => ?_⟩
        have b0 : b < s.heap.objs.size := Heap.lt_size e
        have b2 : b ≠ (s.heap.push (set0 w)).objs.size := by rw [sz1]; exact Nat.ne_of_lt (Nat.lt_succ_of_lt b0)
        exact mv.heap b o (by simp only [List.mem_cons, List.mem_singleton, List.not_mem_nil, or_false, not_or]; exact ⟨Nat.ne_of_lt b0, b2⟩) (Heap.get?_push_of_some _ (Heap.get?_push_of_some _ e))
    · match r₂, hr₂ with
      | .error e, hr₂ => exact hr₂
      | .ok .next, hr₂ => exact hr₂.elim
      | .ok .brk, hr₂ => exact hr₂.elim
      | .ok .cont, hr₂ => exact hr₂.elim
      | .ok (.ret r), hr₂ =>
        obtain ⟨rfl, h', tk, rfl, up, hk⟩ := hr₂
        repeat (any_goals (first | assumption | wp_step))
        exact h _ _ up hk
end
end L2
set_option Elab.async false
set_option linter.all false
set_option maxRecDepth 100000
set_option maxHeartbeats 4000000
namespace Sh
open PySem PySem.Spec PyProof.Rows L2
/-! ### sorted -/
def insI (x : Int) : List Int → List Int
  | [] => [x]
  | y :: r => if x ≤ y then x :: y :: r else y :: insI x r
def sortI : List Int → List Int
  | [] => []
  | x :: r => insI x (sortI r)
theorem insI_perm (x : Int) : ∀ l : List Int, (insI x l).Perm (x :: l)
  | [] => .refl _
  | y :: r => by
    unfold insI
    split
    · exact .refl _
    · exact ((insI_perm x r).cons y).trans (.swap x y r)
theorem sortI_perm : ∀ l : List Int, (sortI l).Perm l
  | [] => .refl _
  | x :: r => (insI_perm x _).trans ((sortI_perm r).cons x)
theorem insI_sorted (x : Int) : ∀ l : List Int, l.Pairwise (· ≤ ·) → (insI x l).Pairwise (· ≤ ·)
  | [], _ => .cons (fun _ h => by cases h) .nil
  | y :: r, h => by
    obtain ⟨h1, h2⟩ := List.pairwise_cons.mp h
    unfold insI
    split
    · rename_i q
      refine .cons (fun z hz => ?_) h
      rcases List.mem_cons.mp hz with rfl | hz
      · exact q
      · exact Int.le_trans q (h1 z hz)
    · rename_i q
      refine .cons (fun z hz => ?_) (insI_sorted x r h2)
      rcases List.mem_cons.mp ((insI_perm x r).mem_iff.mp hz) with rfl | hz
      · omega
      · exact h1 z hz
theorem sortI_sorted : ∀ l : List Int, (sortI l).Pairwise (· ≤ ·)
  | [] => .nil
  | x :: r => insI_sorted x _ (sortI_sorted r)
theorem sorted_eq : ∀ {xs ys : List Int}, xs.Perm ys → xs.Pairwise (· ≤ ·) → ys.Pairwise (· ≤ ·) → xs = ys
  | [], ys, p, _, _ => p.nil_eq
  | x :: xs, [], p, _, _ => p.symm.nil_eq.symm
  | x :: xs, y :: ys, p, h1, h2 => by
    obtain ⟨a1, a2⟩ := List.pairwise_cons.mp h1
    obtain ⟨b1, b2⟩ := List.pairwise_cons.mp h2
    have e : x = y := by
      have m1 : x ∈ y :: ys := p.mem_iff.mp (List.mem_cons_self ..)
      have m2 : y ∈ x :: xs := p.mem_iff.mpr (List.mem_cons_self ..)
      rcases List.mem_cons.mp m1 with z | z
      · exact z
      · rcases List.mem_cons.mp m2 with q | q
        · exact q.symm
        · exact Int.le_antisymm (a1 y q) (b1 x z)
    subst e
    rw [sorted_eq (p.cons_inv) a2 b2]
/-! texts -/
def insS (x : Str) : List Str → List Str
  | [] => [x]
  | y :: r => if ltCps y.cps.toList x.cps.toList = true then y :: insS x r else x :: y :: r
def sortS : List Str → List Str
  | [] => []
  | x :: r => insS x (sortS r)
theorem insS_perm (x : Str) : ∀ l : List Str, (insS x l).Perm (x :: l)
  | [] => .refl _
  | y :: r => by
    unfold insS
    split
    · exact ((insS_perm x r).cons y).trans (.swap x y r)
    · exact .refl _
theorem sortS_perm : ∀ l : List Str, (sortS l).Perm l
  | [] => .refl _
  | x :: r => (insS_perm x _).trans ((sortS_perm r).cons x)
/-- not behind -/
def leS (a b : Str) : Prop := ltCps b.cps.toList a.cps.toList = false
theorem leS_iff {a b : Str} : leS a b ↔ a.cps.toList ≤ b.cps.toList := by
  unfold leS
  rw [ltCps_eq, decide_eq_false_iff_not, List.not_lt]
theorem leS_trans {a b c : Str} (h : leS a b) (g : leS b c) : leS a c := leS_iff.mpr (List.le_trans (leS_iff.mp h) (leS_iff.mp g))
theorem leS_anti {a b : Str} (h : leS a b) (g : leS b a) : a = b := by
  have := List.le_antisymm (leS_iff.mp h) (leS_iff.mp g)
  cases a; cases b
  congr 1
  exact Array.toList_inj.mp this
theorem leS_of_lt {a b : Str} (h : ltCps a.cps.toList b.cps.toList = true) : leS a b := by
  rw [ltCps_eq, decide_eq_true_eq] at h
  exact leS_iff.mpr (List.le_of_lt h)
theorem insS_sorted (x : Str) : ∀ l : List Str, l.Pairwise leS → (insS x l).Pairwise leS
  | [], _ => .cons (fun _ h => by cases h) .nil
  | y :: r, h => by
    obtain ⟨h1, h2⟩ := List.pairwise_cons.mp h
    unfold insS
    split
    · rename_i q
      refine .cons (fun z hz => ?_) (insS_sorted x r h2)
      rcases List.mem_cons.mp ((insS_perm x r).mem_iff.mp hz) with rfl | hz
      · exact leS_of_lt q
      · exact h1 z hz
    · rename_i q
      have q' : leS x y := by simpa [leS] using q
      refine .cons (fun z hz => ?_) h
      rcases List.mem_cons.mp hz with rfl | hz
      · exact q'
      · exact leS_trans q' (h1 z hz)
theorem sortS_sorted : ∀ l : List Str, (sortS l).Pairwise leS
  | [] => .nil
  | x :: r => insS_sorted x _ (sortS_sorted r)
theorem sortedS_eq : ∀ {xs ys : List Str}, xs.Perm ys → xs.Pairwise leS → ys.Pairwise leS → xs = ys
  | [], ys, p, _, _ => p.nil_eq
  | x :: xs, [], p, _, _ => p.symm.nil_eq.symm
  | x :: xs, y :: ys, p, h1, h2 => by
    obtain ⟨a1, a2⟩ := List.pairwise_cons.mp h1
    obtain ⟨b1, b2⟩ := List.pairwise_cons.mp h2
    have e : x = y := by
      have m1 : x ∈ y :: ys := p.mem_iff.mp (List.mem_cons_self ..)
      have m2 : y ∈ x :: xs := p.mem_iff.mpr (List.mem_cons_self ..)
      rcases List.mem_cons.mp m1 with z | z
      · exact z
      · rcases List.mem_cons.mp m2 with q | q
        · exact q.symm
        · exact leS_anti (a1 y q) (b1 x z)
    subst e
    rw [sortedS_eq (p.cons_inv) a2 b2]
theorem rising_pw : ∀ {p : Str} {l : List Str}, risingS p l = true → (p :: l).Pairwise leS
  | p, [], _ => .cons (fun _ h => by cases h) .nil
  | p, x :: r, h => by
    simp only [risingS, Bool.and_eq_true, Bool.not_eq_true'] at h
    have ih := rising_pw h.2
    refine .cons (fun z hz => ?_) ih
    rcases List.mem_cons.mp hz with rfl | hz
    · exact h.1
    · exact leS_trans h.1 ((List.pairwise_cons.mp ih).1 z hz)
theorem sortedS_pw : ∀ {l : List Str}, sortedS l = true → l.Pairwise leS
  | [], _ => .nil
  | _ :: _, h => rising_pw h
@[reducible] def allS : List D → Option (List Str)
  | [] => some []
  | .str i :: r => (allS r).map (i :: ·)
  | _ => none
theorem allS_eq : ∀ {xs : List D} {ns : List Str}, allS xs = some ns → xs = ns.map .str
  | [], _, h => by cases h; rfl
  | x :: r, ns, h => by
    cases x with
    | str i =>
      simp only [allS] at h
      cases q : allS r with
      | none => rw [q] at h; cases h
      | some ms => rw [q] at h; cases h; rw [allS_eq q]; rfl
    | _ => cases h
theorem repsVs {k : Cn} {ρ : Rho} {H : Hp} : ∀ {ns : List Str} {vs : List V}, Reps k ρ H (ns.map .str) vs → vs = ns.map V.str
  | [], _, .nil => rfl
  | _ :: r, _, .cons (.str _) t => by rw [repsVs t]; rfl
theorem vsReps {k : Cn} {ρ : Rho} {H : Hp} : ∀ ns : List Str, Reps k ρ H (ns.map .str) (ns.map V.str)
  | [] => .nil
  | _ :: r => .cons (.str _) (vsReps r)
@[reducible] def allKS : List (Key × D) → Option (List Str)
  | [] => some []
  | (.inr i, _) :: r => (allKS r).map (i :: ·)
  | _ => none
theorem allKS_eq {k : Cn} {ρ : Rho} {H : Hp} : ∀ {kvs : List (Key × D)} {ws : List (Key × V)} {ns : List Str}, RepK k ρ H kvs ws → allKS kvs = some ns → ws.map (·.1) = ns.map Sum.inr
  | [], _, _, .nil, h => by cases h; rfl
  | (key, d) :: r, _, ns, .cons _ t, h => by
    cases key with
    | inr i =>
      simp only [allKS] at h
      cases q : allKS r with
      | none => rw [q] at h; cases h
      | some ms => rw [q] at h; cases h; simp only [List.map_cons]; rw [allKS_eq t q]
    | inl _ => cases h
/-- each once -/
def onceI (l : List Int) : List Int := l.foldr (fun x r => if x ∈ r then r else x :: r) []
theorem onceI_mem {k : Int} : ∀ l : List Int, k ∈ onceI l ↔ k ∈ l
  | [] => Iff.rfl
  | x :: r => by
    have ih := onceI_mem (k := k) r
    show k ∈ (if x ∈ onceI r then onceI r else x :: onceI r) ↔ _
    split
    · rename_i q
      rw [ih, List.mem_cons]
      refine ⟨.inr, fun h => ?_⟩
      rcases h with rfl | h
      · exact (onceI_mem r).mp q
      · exact h
    · rw [List.mem_cons, List.mem_cons, ih]
theorem onceI_nodup : ∀ l : List Int, (onceI l).Nodup
  | [] => .nil
  | x :: r => by
    show (if x ∈ onceI r then onceI r else x :: onceI r).Nodup
    split
    · exact onceI_nodup r
    · rename_i q
      exact List.nodup_cons.mpr ⟨q, onceI_nodup r⟩
theorem once_eq {l ns : List Int} (h1 : ns.Pairwise (· < ·)) (h2 : ∀ k, k ∈ ns ↔ k ∈ l) : ns = sortI (onceI l) := by
  refine sorted_eq ?_ (h1.imp fun h => Int.le_of_lt h) (sortI_sorted _)
  refine List.Perm.trans ?_ (sortI_perm _).symm
  refine (List.perm_ext_iff_of_nodup (h1.imp fun h => Int.ne_of_lt h) (onceI_nodup l)).mpr fun k => ?_
  rw [h2, onceI_mem]
/-- the ints of a list -/
@[reducible] def allI : List D → Option (List Int)
  | [] => some []
  | .int i :: r => (allI r).map (i :: ·)
  | _ => none
theorem allI_eq : ∀ {ds : List D} {ns : List Int}, allI ds = some ns → ds = ns.map .int
  | [], _, h => by cases h; rfl
  | d :: r, ns, h => by
    cases d with
    | int i =>
      simp only [allI] at h
      cases q : allI r with
      | none => rw [q] at h; cases h
      | some ms => rw [q] at h; cases h; rw [allI_eq q]; rfl
    | _ => cases h
theorem repsVi {k : Cn} {ρ : Rho} {H : Hp} : ∀ {ns : List Int} {vs : List V}, Reps k ρ H (ns.map .int) vs → vs = ns.map V.int
  | [], _, .nil => rfl
  | _ :: r, _, .cons (.int _) t => by rw [repsVi t]; rfl
theorem viReps {k : Cn} {ρ : Rho} {H : Hp} : ∀ ns : List Int, Reps k ρ H (ns.map .int) (ns.map V.int)
  | [] => .nil
  | _ :: r => .cons (.int _) (viReps r)
@[reducible] def allKI : List (Key × D) → Option (List Int)
  | [] => some []
  | (.inl i, _) :: r => (allKI r).map (i :: ·)
  | _ => none
theorem allKI_eq {k : Cn} {ρ : Rho} {H : Hp} : ∀ {kvs : List (Key × D)} {ws : List (Key × V)} {ns : List Int}, RepK k ρ H kvs ws → allKI kvs = some ns → ws.map (·.1) = ns.map Sum.inl
  | [], _, _, .nil, h => by cases h; rfl
  | (key, d) :: r, _, ns, .cons _ t, h => by
    cases key with
    | inl i =>
      simp only [allKI] at h
      cases q : allKI r with
      | none => rw [q] at h; cases h
      | some ms => rw [q] at h; cases h; simp only [List.map_cons]; rw [allKI_eq t q]
    | inr _ => cases h
/-- sorted(d), sorted(xs): the keys, the items are ints -/
def gSorted : List D → Option D
  | [.dic kvs] => match allKI kvs with
    | some ns => if ns.length < 1000 then some (.lst ((sortI ns).map .int)) else none
    | none => match allKS kvs with
      | some zs => if zs.length < 64 then some (.lst ((sortS zs).map .str)) else none
      | none => none
  | [.lst xs] => match allI xs with
    | some ns => if ns.length < cap then some (.lst ((sortI ns).map .int)) else none
    | none => match allS xs with
      | some zs => if zs.length < 64 then some (.lst ((sortS zs).map .str)) else none
      | none => none
  | _ => none
section
variable {X : Cx} {k : Cn} {W : WX}
/-- the keys of a dict, all ints, any number of them, in order -/
theorem keysOrd (hc : X.calm = true) : CallR X (.builtin "sorted") (fun args HH QQ => ∃ (ad : Addr) (ps : List (Key × V)) (ns : List Int), args = [.ref ad] ∧ Rd HH ad (.dK ps) ∧ ps.map (·.1) = ns.map Sum.inl ∧ ns.length < 1000 ∧
    ∀ (zs : List Int) (np : Addr), zs.Perm ns → zs.Pairwise (· ≤ ·) → HH np = none → QQ (.ref np) (upd HH np (.lst (zs.map V.int)))) := by
  rintro pins s σ HH args us QQ I rr ⟨ad, ps, ns, rfl, hd, hk1, hlt, goal⟩
  obtain ⟨u, rfl, ru⟩ := vals1 rr
  cases ru
  obtain ⟨_, lo, es, rel, dd⟩ := dk_rd I.hok hd
  obtain ⟨ep, hat⟩ := dd.dictAt
  have hk2 : es.map (·.1) = ns.map Sum.inl := rel.keys.symm.trans hk1
  have hlen : es.length = ns.length := by simpa using congrArg List.length hk2
  have hz : es.length ≤ sizeLine := by rw [hlen, sizeLine_eq]; omega
  refine Calls.call_function_entry kind_sorted plain_sorted entry_sorted (args_sorted1 _) ?_
  unfold Builtin.«sorted»
  refine wpAny_bind (m := checkCount "sorted" 1 1 _) (wpAny_pure (wpAny_bind (PySem.W.kdu_collect (A := X.A.in1) (PySem.W.kdl_dict (knd := mixKind X.prog X.w) (kvs := es) (ep := ep) lo) (I.ok.hd hc) hat hz fun h2 tk got hk hgot => ?_)))
  have hgl : got.toList.length = ns.length := by rw [Array.length_toList, hgot.1, hlen]
  have hIs : IntsAre got.toList ns := ints_each hgl fun j v ej => by
    obtain ⟨key, x, e1, e2⟩ := hgot.2 j v (by rw [← Array.getElem?_toList]; exact ej)
    have e3 : (es.map (·.1))[j]? = some key := by rw [List.getElem?_map, e1]; rfl
    rw [hk2, List.getElem?_map] at e3
    cases e4 : ns[j]? with
    | none => rw [e4] at e3; cases e3
    | some y =>
      rw [e4] at e3
      obtain rfl : Sum.inl y = key := Option.some.inj e3
      rcases keyIs_shape (show keyIs (Sum.inl y) v = true from e2) with ⟨i, t, ek, ev⟩ | ⟨_, _, ek, _⟩
      · cases ek; exact ⟨y, t, rfl, ev⟩
      · cases ek
  have I1 : Inv X pins σ HH { s with heap := h2, toks := tk } := I.kept hk
  have hzz : got.toList.length ≤ sizeLine := by rw [hgl, sizeLine_eq]; omega
  refine wpAny_bind (wpAny_newList ?_ hzz)
  have at_ : (h2.push (seqObj "list" got.toList.toArray 0)).get? h2.objs.size = some (seqObj "list" got.toList.toArray 0) := Heap.get?_push_size _ rfl
  show wpAny _ _ _ _ _ { s with heap := h2.push (seqObj "list" got.toList.toArray 0), toks := tk }
  refine wpAny_bind (wpAny_holding (wpAny_call_entry slot_list_sort ⟨_, at_, rfl⟩ entry_list_sort (SrtO.list_sort_ord (s := { s with heap := h2.push (seqObj "list" got.toList.toArray 0), toks := tk }) SrtO.swo_int at_ hzz (fun two => SrtO.ints_sortable hIs two) fun out o1 o2 => ⟨_, rfl, ?_⟩) (args_list_sort _)))
  obtain ⟨k1, k2, k3⟩ := SrtO.ints_out hIs o1 o2
  obtain ⟨e', he'⟩ := sortedHeap_at (vs := got.toList) (out := out.toArray) at_
  have hol : ((out.map SrtO.iv).map V.int).length ≤ sizeLine := by rw [List.length_map, k2.length_eq, sizeLine_eq]; omega
  refine wpAny_pure ⟨_, rfl, .ref h2.objs.size, upd HH h2.objs.size (.lst ((out.map SrtO.iv).map V.int)), I1.laid (t' := tk) (fun b u e => ?_) (Nat.le_refl _) (show ObjOk X.prog X.w _ _ _ (.lst ((out.map SrtO.iv).map V.int)) from ⟨hol, out, e', vals_of_ints k1, he'⟩), rfl, goal _ _ k2 k3 (I1.hok.fresh (Nat.le_refl _))⟩
  have hb := Heap.lt_size e
  rw [sortedHeap_old (Nat.ne_of_lt hb) (by rw [size_push']; exact Nat.lt_succ_of_lt hb)]
  exact Heap.get?_push_of_some _ e
theorem f_sorted (hc : X.calm = true) (hK : k.K = X.K := by rfl) : CallM k X (.builtin "sorted") gSorted := by
  intro ρ S ds d hg pins s σ H xs us Q I rv m rr q
  unfold gSorted at hg
  split at hg
  · split at hg
    · rename_i ns hn
      split at hg
      · rename_i h64
        cases hg; obtain ⟨v, rfl, r⟩ := rr1 rr; obtain ⟨a, ws, rfl, e, rk⟩ := r.dic_
        refine keysOrd hc pins s σ H _ us Q I rv ⟨a, ws, ns, rfl, .inl e, allKI_eq rk hn, h64, fun ys p hp hs hp0 => ?_⟩
        have ey : ys = sortI ns := sorted_eq (hp.trans (sortI_perm _).symm) hs (sortI_sorted _)
        subst ey
        exact q _ _ (same_new hp0) (Rep.newL m hp0 (viReps _))
      · cases hg
    · split at hg
      · rename_i zs hn
        split at hg
        · rename_i h64
          cases hg; obtain ⟨v, rfl, r⟩ := rr1 rr; obtain ⟨a, ws, rfl, e, rk⟩ := r.dic_
          refine call_sortedD hc pins s σ H _ us Q I rv ⟨a, ws, zs, rfl, .inl e, allKS_eq rk hn, h64, fun ys p hp hs hp0 => ?_⟩
          have ey : ys = sortS zs := sortedS_eq (hp.trans (sortS_perm _).symm) (sortedS_pw hs) (sortS_sorted _)
          subst ey
          exact q _ _ (same_new hp0) (Rep.newL m hp0 (vsReps _))
        · cases hg
      · cases hg
  · split at hg
    · rename_i ns hn
      split at hg
      · cases hg; obtain ⟨v, rfl, r⟩ := rr1 rr; obtain ⟨a, vs, rfl, e, rs⟩ := r.lst_
        have ev := allI_eq hn
        subst ev
        have ew := repsVi rs
        subst ew
        refine cr_sortedI pins s σ H _ us Q I rv ⟨a, ns, rfl, SqL.of e, fun ys p hp hs hp0 => ?_⟩
        have ey : ys = sortI ns := sorted_eq (hp.trans (sortI_perm _).symm) hs (sortI_sorted _)
        subst ey
        exact q _ _ (same_new hp0) (Rep.newL m hp0 (viReps _))
      · cases hg
    · split at hg
      · rename_i zs hn
        split at hg
        · rename_i h64
          cases hg; obtain ⟨v, rfl, r⟩ := rr1 rr; obtain ⟨a, vs, rfl, e, rs⟩ := r.lst_
          have ev := allS_eq hn
          subst ev
          have ew := repsVs rs
          subst ew
          refine cr_sortedS pins s σ H _ us Q I rv ⟨a, zs, rfl, SqL.of e, h64, fun ys p hp hs hp0 => ?_⟩
          have ey : ys = sortS zs := sortedS_eq (hp.trans (sortS_perm _).symm) (sortedS_pw hs) (sortS_sorted _)
          subst ey
          exact q _ _ (same_new hp0) (Rep.newL m hp0 (vsReps _))
        · cases hg
      · cases hg
  · cases hg
/-- sorted(set(xs)) -/
def gSortSet : List D → Option D
  | [.lst xs] => match allI xs with
    | some ns => if ns.length < 64 then some (.lst ((sortI (onceI ns)).map .int)) else none
    | none => none
  | _ => none
def rSetI (k : Cn) (w : World) : List V → Hp → VK → Prop := fun xs H Q => ∃ (a : Addr) (ns : List Int), xs = [.ref a] ∧ SqL k.K H a (ns.map V.int) ∧ ns.length < 64 ∧ ∀ (p : Addr) (f : Int → Bool) (n : Nat), H p = none → n ≤ ns.length → (∀ j, f j = true ↔ j ∈ ns) → Q (.ref p) (upd H p (SetO w p f n))
theorem cr_setI (hc : X.calm = true) (hK : k.K = X.K := by rfl) : CallR X (.type "set") (rSetI k X.w) := by
  intro pins s σ H xs us Q I r ⟨a, ns, ex, hl, h64, q⟩
  subst ex
  rw [Vals.ref1 r]
  rw [hK] at hl
  obtain ⟨its, rv, pl, hz⟩ := I.list hl
  have hi := rv.ints
  refine sh_set_list ns (I.ok.hd hc) pl.isList (by simpa using hi) (Nat.lt_trans (Nat.add_lt_add_right h64 1) (by decide)) fun h' tk ⟨f, n, R, hn, hf⟩ hk => ?_
  refine ⟨.ref s.heap.objs.size, upd H s.heap.objs.size (SetO X.w s.heap.objs.size f n), I.laid (t' := tk) hk (Nat.le_refl _) (setO_new R), rfl, q _ f n (I.hok.fresh (Nat.le_refl _)) hn fun j => ?_⟩
  rw [hf, List.take_length]
theorem c_sortSet {e : Expr} {p p' pos pos' : Pos} {m : EM (List D)} (hc : X.calm = true) (hm : X.mg "sorted" = none) (hm2 : X.mg "set" = none) (hv : bootBuiltins "sorted" = some (.builtin "sorted")) (hv2 : bootBuiltins "set" = some (.type "set")) (ha : PA X [e] (tL k W m)) (hK : k.K = X.K := by rfl) (hg : Gl X "sorted" := by rfl) (hg2 : Gl X "set" := by rfl)
    (he : starEach [e] X.env = (false, eval e X.env) :: starEach [] X.env := by rfl) (hpl : (backTo pos' (starEach [] X.env)).any (·.1) = false := by rfl)
    (he2 : starEach [.Call (.Name "set" p') [e] [] pos'] X.env = (false, eval (.Call (.Name "set" p') [e] [] pos') X.env) :: starEach [] X.env := by rfl) (hpl2 : (backTo pos (starEach [] X.env)).any (·.1) = false := by rfl) :
    PE X (.Call (.Name "sorted" p) [.Call (.Name "set" p') [e] [] pos'] [] pos) (tI k W (eCallB gSortSet m)) :=
  (pe_callB (cr_sortedSet hc) hg hm hv (pa_cons (pe_callTy (cr_setI (k := k) hc hK) hg2 hm2 hv2 ha (by decide) (by decide) he hpl) pa_nil he2) (by decide) (by decide) he2 hpl2).imp fun σ H Q ⟨ρ, S, e, sim, sr, h⟩ => by
  refine At.bind sim sr h fun v1 d1 ρ1 S1 H1 x1 sim1 sr1 r1 h1 => ?_
  unfold liftO at h1
  split at h1
  · rename_i d q
    unfold gSortSet at q
    split at q
    · rename_i xs hx
      split at q
      · rename_i ns hn
        split at q
        · rename_i h64
          cases q
          have rr := RRs.of sim1 r1
          rw [hx] at rr
          obtain ⟨v, rfl, r⟩ := rr1 rr
          obtain ⟨a, vs, rfl, e, rs⟩ := r.lst_
          have ev := allI_eq hn
          subst ev
          have ew := repsVi rs
          subst ew
          refine ⟨a, ns, rfl, SqL.of e, h64, fun p f n hp hle hf => ?_⟩
          refine ⟨p, f, n, rfl, upd_same, Nat.lt_of_le_of_lt hle h64, fun ms p2 h2 h3 h4 h5 => ?_⟩
          have ey := once_eq (l := ns) h2 fun j => (h3 j).trans (hf j)
          subst ey
          have s1 : Same H1 (upd H1 p (SetO X.w p f n)) := same_new hp
          have m1 := sim1.same s1
          have s2 := same_new (o := .lst ((sortI (onceI ns)).map V.int)) h5
          exact h1 _ _ ρ1 ((Ext.same sim1 s1).tr (Ext.same m1 s2)) (m1.same s2) (Rep.newL m1 h5 (viReps _))
        · cases q
      · cases q
    · cases q
  · exact h1.elim
end
end Sh
set_option Elab.async false
set_option linter.all false
set_option maxRecDepth 100000
set_option maxHeartbeats 4000000
namespace Sh
open PySem PySem.Spec PyProof.Rows L2

/-! ### tuple(xs): known to carry no dict -/
def gTupleF : List D → Option D
  | [.lst xs] => some (.ftp xs)
  | _ => none
section
variable {X : Cx} {k : Cn} {W : WX}
theorem f_tupleF (hK : k.K = X.K := by rfl) : CallM k X (.type "tuple") gTupleF := by
  intro ρ S ds d hg pins s σ H xs us Q I rv m rr q
  unfold gTupleF at hg
  split at hg
  · cases hg; obtain ⟨v, rfl, r⟩ := rr1 rr; obtain ⟨a, vs, rfl, e, rs⟩ := r.lst_
    obtain ⟨u, rfl, ru⟩ := vals1 rv
    cases ru
    obtain ⟨its, r', pl, hz⟩ := I.list (show SqL X.K H a vs from SqL.of e)
    have hlen := r'.length
    refine call_tuple_list pl.isList (fun h' kp => ?_) (by simp only [List.size_toArray] <;> omega)
    have J : Inv X pins σ H { s with heap := h' } := I.kept (t' := s.toks) kp
    have hn : H h'.objs.size = none := J.hok.fresh (Nat.le_refl _)
    have ob : ObjOk X.prog X.w (upd H h'.objs.size (.frz { cls := .type "tuple", data := .seq its.toArray } (.tup vs))) (h'.push { cls := .type "tuple", data := .seq its.toArray }) h'.objs.size (.frz { cls := .type "tuple", data := .seq its.toArray } (.tup vs)) := ⟨Heap.get?_push_size _ rfl, hz, its, r', IsTup.new _ _⟩
    have J2 := J.laid (t' := s.toks) (fun b o e => Heap.get?_push_of_some _ e) (Nat.le_refl _) ob
    exact ⟨.ref h'.objs.size, _, J2, rfl, q _ _ (same_new hn) (.ftp upd_same rfl (rs.same m (same_new hn)))⟩
  · cases hg
end

/-! ### dict(xs) of pairs -/
@[reducible] def pairD : D → Option (Key × D)
  | .tup [x, y] => (toKey x).map fun key => (key, y)
  | .ftp [x, y] => (toKey x).map fun key => (key, y)
  | _ => none
@[reducible] def pairsD : List D → Option (List (Key × D))
  | [] => some []
  | x :: r => match pairD x, pairsD r with
    | some a, some b => some (a :: b)
    | _, _ => none
section
variable {X : Cx} {k : Cn} {W : WX}
theorem pair_rep {ρ : Rho} {H : Hp} {d : D} {v : V} {key : Key} {y : D} (r : Rep k ρ H d v) (h : pairD d = some (key, y)) : ∃ p z, v = .ref p ∧ SqT k.K H p [kV key, z] ∧ Rep k ρ H y z := by
  have go : ∀ {p : Addr} {vs : List V} {x : D}, SqT k.K H p vs → Reps k ρ H [x, y] vs → toKey x = some key → ∃ z, SqT k.K H p [kV key, z] ∧ Rep k ρ H y z := fun {p vs x} hs rs hx => by
    cases rs with
    | cons rx rt =>
      cases rt with
      | cons ry rn =>
        cases rn
        have := rx.key hx
        subst this
        exact ⟨_, hs, ry⟩
  unfold pairD at h
  split at h
  · rename_i x y'
    cases hx : toKey x with
    | none => rw [hx] at h; cases h
    | some kk =>
      rw [hx] at h; cases h
      cases r with
      | tup hs rs => obtain ⟨z, h1, h2⟩ := go hs rs hx; exact ⟨_, z, rfl, h1, h2⟩
  · rename_i x y'
    cases hx : toKey x with
    | none => rw [hx] at h; cases h
    | some kk =>
      rw [hx] at h; cases h
      cases r with
      | ftp hs _ rs => obtain ⟨z, h1, h2⟩ := go (.inl (.inr ⟨_, hs⟩)) rs hx; exact ⟨_, z, rfl, h1, h2⟩
  · cases h
theorem pairs_rep {ρ : Rho} {H : Hp} : ∀ {ds : List D} {vs : List V} {kvs : List (Key × D)}, Reps k ρ H ds vs → pairsD ds = some kvs → ∃ (ps : List Addr) (ws : List (Key × V)), vs = ps.map V.ref ∧ Paired (fun p kv => SqT k.K H p [kV kv.1, kv.2]) ps ws ∧ RepK k ρ H kvs ws
  | _, _, _, .nil, h => by cases h; exact ⟨[], [], rfl, .nil, .nil⟩
  | d :: ds, _, _, .cons r t, h => by
    simp only [pairsD] at h
    cases q1 : pairD d with
    | none => simp only [q1] at h; cases h
    | some a =>
      cases q2 : pairsD ds with
      | none => simp only [q1, q2] at h; cases h
      | some b =>
        simp only [q1, q2] at h; cases h
        obtain ⟨p, z, rfl, h1, h2⟩ := pair_rep r q1
        obtain ⟨ps, ws, rfl, h3, h4⟩ := pairs_rep t q2
        exact ⟨p :: ps, (a.1, z) :: ws, rfl, .cons h1 h3, .cons h2 h4⟩
theorem pairs_vv {pins : List (Addr × Obj)} {σ : L2.St} {H : Hp} {s : Shared} (I : Inv X pins σ H s) : ∀ {ps : List Addr} {kvs : List (Key × V)}, Paired (fun p kv => SqT X.K H p [kV kv.1, kv.2]) ps kvs →
    ∃ (prs : List (Key × Value)) (vv : List (Value × Value)), KV kvs prs ∧ prs.length = ps.length ∧ vv.length = ps.length ∧ ∀ (j : Nat) (x y : Value), vv[j]? = some (x, y) → ∃ (b : Addr) (key : Key), ps[j]? = some b ∧ IsTup s.heap b #[x, y] ∧ prs[j]? = some (key, y) ∧ keyIs key x = true
  | _, _, .nil => ⟨[], [], .nil, rfl, rfl, fun j x y e => by simp at e⟩
  | _, _, .cons (a := p) (b := kv) h t => by
    obtain ⟨prs, vv, r, l1, l2, hp⟩ := pairs_vv I t
    obtain ⟨its, rv, ht, _⟩ := I.tuple h
    obtain ⟨x, y, ei, rx, ry⟩ := vals2 rv
    subst ei
    refine ⟨(kv.1, y) :: prs, (x, y) :: vv, .cons ⟨rfl, ry⟩ r, by simp [l1], by simp [l2], fun j x' y' e => ?_⟩
    cases j with
    | zero =>
      cases e
      exact ⟨p, kv.1, rfl, ht, rfl, kV_is (P := X.prog) (w := X.w) rx⟩
    | succ j =>
      obtain ⟨b, key, e1, e2, e3, e4⟩ := hp j x' y' (by simpa using e)
      exact ⟨b, key, by simpa using e1, e2, by simpa using e3, e4⟩
/-- dict(t) of a tuple that carries no dict -/
theorem cr_dictT (hc : X.calm = true) : CallR X (.type "dict") (fun xs H Q => ∃ (a : Addr) (o : Obj) (ps : List Addr) (kvs : List (Key × V)), xs = [.ref a] ∧ H a = some (.frz o (.tup (ps.map V.ref))) ∧ o.dict = none ∧ Paired (fun p kv => SqT X.K H p [kV kv.1, kv.2]) ps kvs ∧
    ∀ p, H p = none → Q (.ref p) (upd H p (.dK (mergeK [] kvs)))) := by
  intro pins s σ H xs us Q I r ⟨a, o, ps, kvs, ex, hq, hd, hp, q⟩
  subst ex
  obtain ⟨u, eu, rx⟩ := vals1 r
  subst eu
  cases rx
  obtain ⟨h1, hz, its, rv, ob, e2, hcl, n, hdat⟩ := (show ObjOk X.prog X.w H s.heap a (.frz o (.tup (ps.map V.ref))) from I.hok a _ hq)
  rw [h1] at e2; cases e2
  have ei := refs_at rv
  subst ei
  rw [List.length_map] at hz
  obtain ⟨prs, vv, rel, l1, l2, hpr⟩ := pairs_vv I hp
  have items : PairItems s.heap (ps.map Value.ref).toArray (fun j => ps.getD j 0) vv := ⟨by simp [l2], fun j x y e => by
    obtain ⟨b, key, e1, e2, _⟩ := hpr j x y e
    have eb : ps.getD j 0 = b := by rw [List.getD_eq_getElem?_getD, e1]; rfl
    refine ⟨by simp [e1], ?_⟩
    simp only [eb]
    exact .inl e2⟩
  refine PySem.call_dict_pairs (knd := mixKind X.prog X.w) (kvs := prs) (PairArg.tuple a (ps.map Value.ref).toArray (fun j => ps.getD j 0) vv) (I.ok.hd hc) ⟨⟨o, n, h1, hcl, hd, hdat⟩, items⟩ ⟨by rw [l1, l2], fun j x y e => ?_⟩ (by rw [l2]; exact hz) fun h' tk hd' kp => ?_
  · obtain ⟨b, key, _, _, e3, e4⟩ := hpr j x y e
    exact ⟨key, e3, e4⟩
  · have hm : (s.heap.objs.size == sysModules) = false := beq_eq_false_iff_ne.mpr (Nat.ne_of_gt I.big)
    have hlen : (mergeK [] kvs).length ≤ sizeLine := by
      refine Nat.le_trans (length_mergeK kvs []) ?_
      rw [List.length_nil, Nat.zero_add, rel.length, l1]
      exact hz
    exact ⟨.ref s.heap.objs.size, upd H s.heap.objs.size (.dK (mergeK [] kvs)), I.laid (t' := tk) (fun b o e => kp b o (by simp) e) (Nat.le_refl _) (show ObjOk X.prog X.w _ _ _ (.dK (mergeK [] kvs)) from ⟨hlen, hm, merged [] prs, KV.merge rel .nil, hd'⟩), rfl, q _ (I.hok.fresh (Nat.le_refl _))⟩
/-- dict(xs) -/
@[reducible] def newD (kvs : List (Key × D)) (S : Sto) : Res D := .ok (.loc S.length) (S ++ [.dic (mergeD [] kvs)])
@[reducible] def eDictN (m : EM (List D)) : EM D := bindE m fun ds => fun _ S => match ds with
  | [.ftp xs] => match pairsD xs with
    | some kvs => newD kvs S
    | none => .bad
  | _ => .bad
theorem newD_at {ρ : Rho} {S : Sto} {H : Hp} {E : XK} {Q : VK} {kvs : List (Key × D)} {ws : List (Key × V)} {p : Addr} (m : Sim k ρ S H) (h : At k (RpD k) ρ H E (newD kvs S) Q) (r : RepK k ρ H kvs ws) (hp : H p = none) : Q (.ref p) (upd H p (.dK (mergeK [] ws))) := by
  have rm : RepK k ρ H (mergeD [] kvs) (mergeK [] ws) := RepK.merge r .nil
  obtain ⟨x, m'⟩ := m.alloc (o := .dic (mergeD [] kvs)) (u := .dK (mergeK [] ws)) hp ⟨_, upd_same, rm.ext m (ext_push m hp)⟩
  exact h _ _ _ x m' (.loc (rho_last m))
theorem c_dictN {e : Expr} {p pos : Pos} {m : EM (List D)} (hc : X.calm = true) (hm : X.mg "dict" = none) (hv : bootBuiltins "dict" = some (.type "dict")) (ha : PA X [e] (tL k W m)) (hK : k.K = X.K := by rfl) (hg : Gl X "dict" := by rfl)
    (he : starEach [e] X.env = (false, eval e X.env) :: starEach [] X.env := by rfl) (hpl : (backTo pos (starEach [] X.env)).any (·.1) = false := by rfl) : PE X (.Call (.Name "dict" p) [e] [] pos) (tI k W (eDictN m)) :=
  (pe_callTy (cr_dictT hc) hg hm hv ha (by decide) (by decide) he hpl).imp fun σ H Q ⟨ρ, S, e, sim, sr, h⟩ => by
  refine At.bind sim sr h fun v1 d1 ρ1 S1 H1 x1 sim1 sr1 r1 h1 => ?_
  split at h1
  · rename_i xs
    split at h1
    · rename_i kvs q
      cases r1 with
      | cons ra rb =>
        cases rb
        cases ra with
        | @ftp a o vs _ e1 hd rs =>
          obtain ⟨ps, ws, rfl, h3, h4⟩ := pairs_rep rs q
          rw [hK] at h3
          exact ⟨a, o, ps, ws, rfl, e1, hd, h3, fun p hp => newD_at sim1 h1 h4 hp⟩
    · exact (show False from h1).elim
  · exact (show False from h1).elim
end
end Sh
set_option Elab.async false
set_option linter.all false
set_option maxRecDepth 100000
set_option maxHeartbeats 4000000
/-! ### zip of any two kinds, while the pair given out before still stands -/
namespace PySem
open Sem (wp)
section
variable {prog : Program} {w : World} {A : Around} {E : Value → Shared → Prop} {s : Shared} {z TI TO i1 i2 : Addr} {fp1 fp2 : List Addr} {n1 n2 i : Nat} {P1 P2 : Nat → Value → Prop} {St1 St2 : Nat → Heap → Prop}
theorem sh_zip_item {T : Addr} {f : Bool} {oT : Obj} {Q : Value → Shared → Prop} (S : ZipSep2 z TI TO i1 i2 fp1 fp2) (D1 : Draws prog w A i1 fp1 n1 P1 St1) (D2 : Draws prog w A i2 fp2 n2 P2 St2)
    (hz : IsZipHeld s.heap z TI TO T f) (hT : s.heap.get? T = some oT) (hTI : IsTupOf2 s.heap TI (.ref i1) (.ref i2)) (st1 : St1 i s.heap) (st2 : St2 i s.heap) (l1 : i < n1) (l2 : i < n2)
    (hQ : ∀ x y h' tk, P1 i x → P2 i y → IsZipHeld h' z TI TO T true → St1 (i + 1) h' → St2 (i + 1) h' → IsTupOf2 h' s.heap.objs.size x y →
      (∀ c o, c ≠ z → c ≠ i1 → c ≠ i2 → s.heap.get? c = some o → h'.get? c = some o) → Q (.ref s.heap.objs.size) { s with heap := h', toks := tk }) :
    wpAny (model prog w) A (Builtin.«zip.__next__» ⟨[.ref z], []⟩) (fun fin s' => ∃ v, fin = .done (.ret v) ∧ Q v s') E s := by
  show wpAny _ _ (field (.ref z) 2 >>= _) _ _ _
  refine wpAny_bind (wpAny_field hz rfl (x := .bool false) rfl ?_)
  show wpAny _ _ (field (.ref z) 3 >>= _) _ _ _
  refine wpAny_bind (wpAny_field hz rfl (x := .ref TI) rfl (wpAny_bind (wpAny_seqItems hTI rfl ?_)))
  show wpAny _ _ (Builtin.SmallTypes.ownedTupleIsFree (.ref z) >>= _) _ _ _
  refine wpAny_bind (wpAny_tupleHeld_zip hz hT fun ha za sa => ?_)
  simp only [Bool.false_eq_true, if_false]
  refine wpAny_bind ?_
  rw [← Array.forIn_toList]
  simp only [List.forIn_cons, List.forIn_nil]
  refine wpAny_bind (wpAny_bind (wpAny_holding ?_))
  show wpAny _ _ (Builtin.SmallTypes.nextOf (.ref i1) >>= _) _ _ _
  refine wpAny_bind (D1.item i { s with heap := ha } _ _ l1 (D1.over st1 sa S.zf1) fun x hb tb px sb1 kb => wpAny_pure (wpAny_pure ?_))
  replace kb : Heap.SameBut i1 ha hb := kb
  refine wpAny_bind (wpAny_bind (wpAny_holding ?_))
  show wpAny _ _ (Builtin.SmallTypes.nextOf (.ref i2) >>= _) _ _ _
  refine wpAny_bind (D2.item i { s with heap := hb, toks := tb } _ _ l2 (D2.over (D2.over st2 sa S.zf2) kb S.sep1_2) fun y hc tc py sc2 kc => wpAny_pure (wpAny_pure (wpAny_pure ?_)))
  replace kc : Heap.SameBut i2 hb hc := kc
  show wpAny _ _ (newTuple [x, y] >>= _) _ _ _
  refine wpAny_bind (wpAny_newTuple ?_)
  have sz : hc.objs.size = s.heap.objs.size := by rw [kc.1, kb.1, sa.1]
  have zi1 : z ≠ i1 := S.zi1
  have zi2 : z ≠ i2 := fun e => S.zf2 (by rw [e]; exact S.mem2)
  have zc : IsZipHeld hc z TI TO T true := kc.extBut _ _ zi2 (kb.extBut _ _ zi1 za)
  have s1c : St1 (i + 1) hc := D1.over sb1 kc S.sep2_1
  refine wpAny_pure ⟨_, rfl, ?_⟩
  show Q (.ref hc.objs.size) _
  have pt : IsTupOf2 (hc.push { cls := .type "tuple", data := .seq #[x, y] }) hc.objs.size x y := Heap.get?_push_size _ rfl
  rw [sz] at pt ⊢
  exact hQ x y _ _ px py (Heap.get?_push_of_some _ zc) (D1.frame _ _ _ s1c fun b _ o e => Heap.get?_push_of_some _ e) (D2.frame _ _ _ sc2 fun b _ o e => Heap.get?_push_of_some _ e) pt fun c o c1 c2 c3 e => Heap.get?_push_of_some _ (kc.extBut _ _ c3 (kb.extBut _ _ c2 (sa.extBut _ _ c1 e)))
theorem sh_zip_end {T : Addr} {f : Bool} {oT : Obj} {Q : Fin → Shared → Prop} (S : ZipSep2 z TI TO i1 i2 fp1 fp2) (D1 : Draws prog w A i1 fp1 n1 P1 St1) (D2 : Draws prog w A i2 fp2 n2 P2 St2)
    (hz : IsZipHeld s.heap z TI TO T f) (hT : s.heap.get? T = some oT) (hTI : IsTupOf2 s.heap TI (.ref i1) (.ref i2)) (st1 : St1 i s.heap) (st2 : St2 i s.heap) (l1 : i ≤ n1) (l2 : i ≤ n2) (hend : i = n1 ∨ i = n2)
    (hE : ∀ h' tk e, (∀ c o, c ≠ z → c ≠ i1 → c ≠ i2 → s.heap.get? c = some o → h'.get? c = some o) → (∃ o, h'.get? e = some o ∧ o.cls = .type "StopIteration") → E (.ref e) { s with heap := h', toks := tk }) :
    wpAny (model prog w) A (Builtin.«zip.__next__» ⟨[.ref z], []⟩) Q E s := by
  show wpAny _ _ (field (.ref z) 2 >>= _) _ _ _
  refine wpAny_bind (wpAny_field hz rfl (x := .bool false) rfl ?_)
  show wpAny _ _ (field (.ref z) 3 >>= _) _ _ _
  refine wpAny_bind (wpAny_field hz rfl (x := .ref TI) rfl (wpAny_bind (wpAny_seqItems hTI rfl ?_)))
  show wpAny _ _ (Builtin.SmallTypes.ownedTupleIsFree (.ref z) >>= _) _ _ _
  refine wpAny_bind (wpAny_tupleHeld_zip hz hT fun ha za sa => ?_)
  simp only [Bool.false_eq_true, if_false]
  refine wpAny_bind ?_
  rw [← Array.forIn_toList]
  simp only [List.forIn_cons, List.forIn_nil]
  refine wpAny_bind (wpAny_bind (wpAny_holding ?_))
  show wpAny _ _ (Builtin.SmallTypes.nextOf (.ref i1) >>= _) _ _ _
  by_cases c : i < n1
  · have e2 : i = n2 := by rcases hend with q | q; exact absurd q (Nat.ne_of_lt c); exact q
    subst e2
    refine wpAny_bind (D1.item i { s with heap := ha } _ _ c (D1.over st1 sa S.zf1) fun x hb tb px sb1 kb => wpAny_pure (wpAny_pure ?_))
    replace kb : Heap.SameBut i1 ha hb := kb
    refine wpAny_bind (wpAny_bind (wpAny_holding ?_))
    show wpAny _ _ (Builtin.SmallTypes.nextOf (.ref i2) >>= _) _ _ _
    refine wpAny_bind (D2.done { s with heap := hb, toks := tb } _ _ (D2.over (D2.over st2 sa S.zf2) kb S.sep1_2) fun hc e kc he => ?_)
    exact hE hc _ e (fun c o c1 c2 c3 x => kc _ _ c3 (kb.extBut _ _ c2 (sa.extBut _ _ c1 x))) he
  · have e1 : i = n1 := by omega
    subst e1
    refine wpAny_bind (D1.done { s with heap := ha } _ _ (D1.over st1 sa S.zf1) fun hb e kb he => ?_)
    exact hE hb _ e (fun c o c1 c2 c3 x => kb _ _ c2 (sa.extBut _ _ c1 x)) he
theorem sh_pyNext_zip_item {T : Addr} {f : Bool} {oT : Obj} {Q : Option Value → Shared → Prop} (S : ZipSep2 z TI TO i1 i2 fp1 fp2) (D1 : Draws prog w A.in1 i1 fp1 n1 P1 St1) (D2 : Draws prog w A.in1 i2 fp2 n2 P2 St2)
    (hz : IsZipHeld s.heap z TI TO T f) (hT : s.heap.get? T = some oT) (hTI : IsTupOf2 s.heap TI (.ref i1) (.ref i2)) (st1 : St1 i s.heap) (st2 : St2 i s.heap) (l1 : i < n1) (l2 : i < n2)
    (hQ : ∀ x y h' tk, P1 i x → P2 i y → IsZipHeld h' z TI TO T true → St1 (i + 1) h' → St2 (i + 1) h' → IsTupOf2 h' s.heap.objs.size x y →
      (∀ c o, c ≠ z → c ≠ i1 → c ≠ i2 → s.heap.get? c = some o → h'.get? c = some o) → Q (some (.ref s.heap.objs.size)) { s with heap := h', toks := tk }) : wpAny (model prog w) A (pyNext (.ref z)) Q E s := by
  have ty : s.TypeIs (.ref z) "zip" := ⟨_, hz, rfl⟩
  unfold pyNext
  refine wpAny_bind (wpAny_attempt (wpAny_callSpecial?_slot (name := Str.ofString "__next__") ty F.slot_zip_next (wpAny_call_entry F.slot_zip_next ty F.entry_zip_next ?_ (F.args_zip_next_1 _))))
  exact sh_zip_item S D1 D2 hz hT hTI st1 st2 l1 l2 fun x y h' tk a b c d e g k => wpAny_pure (hQ x y h' tk a b c d e g k)
theorem sh_pyNext_zip_end {T : Addr} {f : Bool} {oT : Obj} {Q : Option Value → Shared → Prop} (S : ZipSep2 z TI TO i1 i2 fp1 fp2) (D1 : Draws prog w A.in1 i1 fp1 n1 P1 St1) (D2 : Draws prog w A.in1 i2 fp2 n2 P2 St2)
    (hz : IsZipHeld s.heap z TI TO T f) (hT : s.heap.get? T = some oT) (hTI : IsTupOf2 s.heap TI (.ref i1) (.ref i2)) (st1 : St1 i s.heap) (st2 : St2 i s.heap) (l1 : i ≤ n1) (l2 : i ≤ n2) (hend : i = n1 ∨ i = n2)
    (hQ : ∀ h' tk, (∀ c o, c ≠ z → c ≠ i1 → c ≠ i2 → s.heap.get? c = some o → h'.get? c = some o) → Q none { s with heap := h', toks := tk }) : wpAny (model prog w) A (pyNext (.ref z)) Q E s := by
  have ty : s.TypeIs (.ref z) "zip" := ⟨_, hz, rfl⟩
  unfold pyNext
  refine wpAny_bind (wpAny_attempt (wpAny_callSpecial?_slot (name := Str.ofString "__next__") ty F.slot_zip_next (wpAny_call_entry F.slot_zip_next ty F.entry_zip_next (sh_zip_end S D1 D2 hz hT hTI st1 st2 l1 l2 hend fun h' tk e k he => ?_) (F.args_zip_next_1 _))))
  obtain ⟨o, ho, hc⟩ := he
  exact wpAny_bind (wpAny_isInstance (T := "StopIteration") (b := true) ⟨o, ho, hc⟩ isSubtype_stop (wpAny_pure (hQ _ _ k)))
/-- zip as the argument of dict() -/
theorem sh_zip_arg (S : ZipSep2 z TI TO i1 i2 fp1 fp2) (D1 : ∀ A : Around, A.handled = none → Draws prog w A i1 fp1 n1 P1 St1) (D2 : ∀ A : Around, A.handled = none → Draws prog w A i2 fp2 n2 P2 St2)
    (A1 : ∀ h, St1 0 h → ∀ b ∈ fp1, ∃ o, h.get? b = some o) (A2 : ∀ h, St2 0 h → ∀ b ∈ fp2, ∃ o, h.get? b = some o) (A0 : Around) (hA0 : A0.handled = none) :
    PairArg prog w "zip" z (z :: TI :: TO :: (fp1 ++ fp2)) [z, TO, i1, i2] (min n1 n2) (fun i x y => P1 i x ∧ P2 i y) (fun h => IsZip h z TI TO .none ∧ IsTupOf2 h TI (.ref i1) (.ref i2) ∧ (∃ a b, IsTupOf2 h TO a b) ∧ St1 0 h ∧ St2 0 h) where
  type := fun s ok => ⟨_, ok.1, rfl⟩
  notDict := by decide
  keep := fun h h' ok hk => by
    obtain ⟨hz, ht, ⟨a, b, ho⟩, s1, s2⟩ := ok
    exact ⟨hk _ _ hz, hk _ _ ht, ⟨a, b, hk _ _ ho⟩, (D1 A0 hA0).frame _ _ _ s1 fun b _ o e => hk b o e, (D2 A0 hA0).frame _ _ _ s2 fun b _ o e => hk b o e⟩
  there := fun h ok b hb => by
    obtain ⟨hz, ht, ⟨a, c, ho⟩, s1, s2⟩ := ok
    rcases List.mem_cons.mp hb with rfl | hb
    · exact ⟨_, hz⟩
    rcases List.mem_cons.mp hb with rfl | hb
    · exact ⟨_, ht⟩
    rcases List.mem_cons.mp hb with rfl | hb
    · exact ⟨_, ho⟩
    rcases List.mem_append.mp hb with hb | hb
    · exact A1 h s1 b hb
    · exact A2 h s2 b hb
  sub := fun b hb => by
    simp only [List.mem_cons, List.not_mem_nil, or_false, List.mem_append] at hb ⊢
    rcases hb with rfl | rfl | rfl | rfl
    · exact .inl rfl
    · exact .inr (.inr (.inl rfl))
    · exact .inr (.inr (.inr (.inl S.mem1)))
    · exact .inr (.inr (.inr (.inr S.mem2)))
  noKeys := fun A s Q E hA ok h => getAttrOr_miss_zip ok.1 rfl rfl rfl zip_no_keys (by decide +kernel) hA h
  iter := fun A s d Q E hA ok hd hdf h => by
    obtain ⟨hz, ht, ⟨a, b, ho⟩, s1, s2⟩ := ok
    simp only [List.mem_cons, List.mem_append, not_or] at hdf
    obtain ⟨dz, dT, dO, d1, d2⟩ := hdf
    have zi1 : z ≠ i1 := S.zi1
    have zi2 : z ≠ i2 := fun e => S.zf2 (by rw [e]; exact S.mem2)
    have di1 : d ≠ i1 := fun e => d1 (by rw [e]; exact S.mem1)
    have di2 : d ≠ i2 := fun e => d2 (by rw [e]; exact S.mem2)
    have e1 := D1 A.in1 (by simp [hA])
    have e2 := D2 A.in1 (by simp [hA])
    refine wpAny_pyIter_zip hz (h z [z, TO, i1, i2] (fun i h => IsTupOf2 h TI (.ref i1) (.ref i2) ∧ St1 i h ∧ St2 i h ∧ i ≤ min n1 n2 ∧ ((IsZip h z TI TO .none ∧ ∃ a b, IsTupOf2 h TO a b) ∨ ∃ T f oT, IsZipHeld h z TI TO T f ∧ h.get? T = some oT ∧ T ≠ z ∧ T ≠ i1 ∧ T ≠ i2 ∧ T ≠ d)) s.heap s.toks ?_ ⟨ht, s1, s2, Nat.zero_le _, .inl ⟨hz, a, b, ho⟩⟩ (fun _ _ e => e) fun b hb => .inl hb)
    exact {
      off := fun hm => by
        simp only [List.mem_cons, List.not_mem_nil, or_false] at hm
        rcases hm with e | e | e | e
        · exact dz e
        · exact dO e
        · exact di1 e
        · exact di2 e
      frame := fun i h₁ h₂ st hk => by
        obtain ⟨ht, s1, s2, hle, hz⟩ := st
        refine ⟨hk _ _ (Ne.symm dT) ht, e1.frame _ _ _ s1 fun b hb o e => hk b o (fun q => d1 (by rw [← q]; exact hb)) e, e2.frame _ _ _ s2 fun b hb o e => hk b o (fun q => d2 (by rw [← q]; exact hb)) e, hle, ?_⟩
        rcases hz with ⟨hz, a, b, ho⟩ | ⟨T, f, oT, hz, hT, r1, r2, r3, r4⟩
        · exact .inl ⟨hk _ _ (Ne.symm dz) hz, a, b, hk _ _ (Ne.symm dO) ho⟩
        · exact .inr ⟨T, f, oT, hk _ _ (Ne.symm dz) hz, hk _ _ r4 hT, r1, r2, r3, r4⟩
      item := fun i t Q₁ E₁ hi st hds hQ => by
        obtain ⟨ht, s1, s2, hle, hz⟩ := st
        have i1n : i < n1 := by omega
        have i2n : i < n2 := by omega
        have lt : ∀ {c o}, t.heap.get? c = some o → t.heap.objs.size ≠ c := fun e => Nat.ne_of_gt (Heap.lt_size e)
        have m1 : t.heap.objs.size ≠ i1 := let ⟨_, e⟩ := e1.live _ _ s1; lt e
        have m2 : t.heap.objs.size ≠ i2 := let ⟨_, e⟩ := e2.live _ _ s2; lt e
        rcases hz with ⟨hz, a, b, ho⟩ | ⟨T, f, oT, hz, hT, r1, r2, r3, r4⟩
        · refine wpAny_pyNext_zipD2_item S e1 e2 hz ht ho s1 s2 i1n i2n fun x y h' tk px py z' to' st1 st2 pt hsz hk => ?_
          exact hQ t.heap.objs.size x y h' tk ⟨px, py⟩ (.inl ⟨_, pt, rfl, _, rfl⟩) ⟨hk _ _ S.TIz S.TITO S.TIi1 S.TIi2 ht, st1, st2, hi, .inr ⟨t.heap.objs.size, false, _, z', pt, lt hz, m1, m2, Nat.ne_of_gt hds⟩⟩
            fun c o hc e => hk c o (fun q => hc (by simp [q])) (fun q => hc (by simp [q])) (fun q => hc (by simp [q])) (fun q => hc (by simp [q])) e
        · refine sh_pyNext_zip_item S e1 e2 hz hT ht s1 s2 i1n i2n fun x y h' tk px py z' st1 st2 pt hk => ?_
          exact hQ t.heap.objs.size x y h' tk ⟨px, py⟩ (.inl ⟨_, pt, rfl, _, rfl⟩) ⟨hk _ _ S.TIz S.TIi1 S.TIi2 ht, st1, st2, hi, .inr ⟨T, true, oT, z', hk _ _ r1 r2 r3 hT, r1, r2, r3, r4⟩⟩
            fun c o hc e => hk c o (fun q => hc (by simp [q])) (fun q => hc (by simp [q])) (fun q => hc (by simp [q])) e
      done := fun t Q₁ E₁ st hQ => by
        obtain ⟨ht, s1, s2, hle, hz⟩ := st
        rcases hz with ⟨hz, a, b, ho⟩ | ⟨T, f, oT, hz, hT, r1, r2, r3, r4⟩
        · exact wpAny_pyNext_zipD2_end S e1 e2 hz ht ho s1 s2 (by omega) (by omega) (by omega) fun h' tk hk => hQ h' tk fun c o hc e => hk c o (fun q => hc (by simp [q])) (fun q => hc (by simp [q])) (fun q => hc (by simp [q])) (fun q => hc (by simp [q])) e
        · exact sh_pyNext_zip_end S e1 e2 hz hT ht s1 s2 (by omega) (by omega) (by omega) fun h' tk hk => hQ h' tk fun c o hc e => hk c o (fun q => hc (by simp [q])) (fun q => hc (by simp [q])) (fun q => hc (by simp [q])) e }
end
end PySem
set_option Elab.async false
set_option linter.all false
set_option maxRecDepth 100000
set_option maxHeartbeats 4000000
namespace Sh
open PySem PySem.Spec PyProof.Rows L2
/-! ### dict(zip(a, b)) -/
theorem Kd.drawsA {X : Cx} {pins : List (Addr × Obj)} {σ : L2.St} {H : Hp} {s : Shared} (κ : Kd) (it : Addr) (I : Inv X pins σ H s) (hs : κ.std X.K H) (hi : s.heap.objs.size ≤ it) (ns : ∀ z, κ ≠ .s z) :
    ∃ (its : List Value) (fp : List Addr) (St : Nat → Heap → Prop), Vals κ.vs its ∧ κ.vs.length ≤ sizeLine ∧ (∀ A : Around, A.handled = none → Draws X.prog X.w A it fp its.length (fun j u => its[j]? = some u) St) ∧ it ∈ fp ∧
      (∀ h, κ.it it 0 h → (∀ b o, s.heap.get? b = some o → h.get? b = some o) → St 0 h) ∧ (∀ h, St 0 h → ∀ b ∈ fp, ∃ o, h.get? b = some o) ∧ ∀ b, s.heap.objs.size ≤ b → b ≠ it → b ∉ fp := by
  cases κ with
  | s z => exact absurd rfl (ns z)
  | l a vs =>
    obtain ⟨its, rv, pl, hz⟩ := I.list hs
    have al : a < s.heap.objs.size := pl.lt
    have ne : a ≠ it := Nat.ne_of_lt (Nat.lt_of_lt_of_le al hi)
    refine ⟨its, [it, a], fun i h => h.IsListIter it a i ∧ h.IsList a its.toArray, rv, hz, fun A hA => ?_, by simp, fun h h1 h2 => ⟨h1, pl.isList.at fun o e => h2 _ _ e⟩, fun h st b hb => ?_, fun b hb hne => ?_⟩
    · have := Draws.list (prog := X.prog) (w := X.w) hA it a ne its.toArray
      simpa using this
    · obtain ⟨⟨o1, e1, _⟩, ⟨o2, e2, _⟩⟩ := st
      rcases List.mem_cons.mp hb with rfl | hb
      · exact ⟨_, e1⟩
      · rw [List.mem_singleton.mp hb]; exact ⟨_, e2⟩
    · simp only [List.mem_cons, List.not_mem_nil, or_false, not_or]
      exact ⟨hne, fun q => absurd al (by rw [← q]; exact Nat.not_lt.mpr hb)⟩
  | t a vs =>
    obtain ⟨its, rv, pl, hz⟩ := I.tuple hs
    have al : a < s.heap.objs.size := by obtain ⟨o, e, _⟩ := id pl; exact Heap.lt_size e
    have ne : a ≠ it := Nat.ne_of_lt (Nat.lt_of_lt_of_le al hi)
    have pl' : s.heap.IsTuple a its.toArray := pl
    refine ⟨its, [it, a], fun i h => h.IsTupleIter it a i ∧ h.IsTuple a its.toArray, rv, hz, fun A hA => ?_, by simp, fun h h1 h2 => ⟨h1, pl'.at fun o e => h2 _ _ e⟩, fun h st b hb => ?_, fun b hb hne => ?_⟩
    · have := Draws.tuple (prog := X.prog) (w := X.w) hA it a ne its.toArray
      simpa using this
    · obtain ⟨⟨o1, e1, _⟩, ⟨o2, e2, _⟩⟩ := st
      rcases List.mem_cons.mp hb with rfl | hb
      · exact ⟨_, e1⟩
      · rw [List.mem_singleton.mp hb]; exact ⟨_, e2⟩
    · simp only [List.mem_cons, List.not_mem_nil, or_false, not_or]
      exact ⟨hne, fun q => absurd al (by rw [← q]; exact Nat.not_lt.mpr hb)⟩
/-- keys beside values -/
@[reducible] def zipKD : List D → List D → Option (List (Key × D))
  | x :: xs, y :: ys => match toKey x, zipKD xs ys with
    | some key, some r => some ((key, y) :: r)
    | _, _ => none
  | _, _ => some []
theorem zipKD_rep (P : Program) (w : World) {k : Cn} {ρ : Rho} {H : Hp} : ∀ {xs ys : List D} {vs ws : List V} {its jts : List Value} {kvs : List (Key × D)}, Reps k ρ H xs vs → Reps k ρ H ys ws → Vals vs its → Vals ws jts → zipKD xs ys = some kvs →
    ∃ (us : List (Key × V)) (prs : List (Key × Value)), RepK k ρ H kvs us ∧ KV us prs ∧ prs.length = min its.length jts.length ∧ ∀ (i : Nat) (x y : Value), its[i]? = some x → jts[i]? = some y → ∃ key, prs[i]? = some (key, y) ∧ keyIs key x = true
  | [], _, _, _, _, _, _, .nil, _, .nil, _, h => by cases h; exact ⟨[], [], .nil, .nil, by simp, fun i x y e => by simp at e⟩
  | _ :: _, [], _, _, _, _, _, .cons _ _, .nil, .cons _ _, .nil, h => by cases h; exact ⟨[], [], .nil, .nil, by simp, fun i x y _ e => by simp at e⟩
  | x :: xs, y :: ys, _, _, _, _, _, .cons rx rxs, .cons ry rys, .cons vx vxs, .cons vy vys, h => by
    simp only [zipKD] at h
    cases q1 : toKey x with
    | none => simp only [q1] at h; cases h
    | some key =>
      cases q2 : zipKD xs ys with
      | none => simp only [q1, q2] at h; cases h
      | some r =>
        simp only [q1, q2] at h; cases h
        obtain ⟨us, prs, h1, h2, h3, h4⟩ := zipKD_rep P w rxs rys vxs vys q2
        have ek := rx.key q1
        subst ek
        refine ⟨(key, _) :: us, (key, _) :: prs, .cons ry h1, .cons ⟨rfl, vy⟩ h2, by simp only [List.length_cons, h3]; omega, fun i x' y' e1 e2 => ?_⟩
        cases i with
        | zero => cases e1; cases e2; exact ⟨key, rfl, kV_is (P := P) (w := w) vx⟩
        | succ i => simpa using h4 i x' y' (by simpa using e1) (by simpa using e2)
@[reducible] def notS : D → Bool
  | .str _ => false
  | _ => true
@[reducible] def eDictZ (m : EM (List D)) : EM D := bindE m fun ds => fun _ S => match ds with
  | [x, y] => if notS x && notS y then match sqOf x, sqOf y with
    | some xs, some ys => match zipKD xs ys with
      | some kvs => newD kvs S
      | none => .bad
    | _, _ => .bad
    else .bad
  | _ => .bad
theorem kd_notS {k : Cn} {ρ : Rho} {S : Sto} {H : Hp} {d : D} {v : V} {ds : List D} (m : Sim k ρ S H) (r : Rep k ρ H d v) (h : sqOf d = some ds) (n : notS d = true) : ∃ κ, KdR k ρ H ds v κ ∧ ∀ z, κ ≠ .s z := by
  cases r with
  | @lst p vs _ e nl rs => cases h; exact ⟨.l p vs, ⟨rfl, fun ρ' H' x => SqL.of (x.keep _ _ e nl), rs⟩, fun z q => by cases q⟩
  | @fls p vs _ e rs => cases h; exact ⟨.l p vs, ⟨rfl, fun ρ' H' x => (show FzL k.K H' p vs from e.imp (fun ⟨o, z⟩ => ⟨o, x.fz _ _ _ z⟩) id).sq, rs⟩, fun z q => by cases q⟩
  | @ftp p o vs _ e hd rs => cases h; exact ⟨.t p vs, ⟨rfl, fun ρ' H' x => SqT.ext0 m x (.inl (.inr ⟨o, e⟩)), rs⟩, fun z q => by cases q⟩
  | @tup p vs _ e rs => cases h; exact ⟨.t p vs, ⟨rfl, fun ρ' H' x => SqT.ext0 m x e, rs⟩, fun z q => by cases q⟩
  | str z => cases n
  | _ => cases h
section
variable {X : Cx} {k : Cn} {W : WX}
theorem c_dictZ {a b : Expr} {p p' pos pos' : Pos} {m : EM (List D)} (hc : X.calm = true) (hm : X.mg "dict" = none) (hm2 : X.mg "zip" = none) (hv : bootBuiltins "dict" = some (.type "dict")) (ha : PA X [a, b] (tL k W m)) (hK : k.K = X.K := by rfl) (hg : Gl X "dict" := by rfl) (hg2 : Gl X "zip" := by rfl)
    (he : starEach [.Call (.Name "zip" p') [a, b] [] pos'] X.env = (false, eval (.Call (.Name "zip" p') [a, b] [] pos') X.env) :: starEach [] X.env := by rfl) (hpl : (backTo pos (starEach [] X.env)).any (·.1) = false := by rfl)
    (hs : starEach [a, b] X.env = (false, eval a X.env) :: starEach [b] X.env := by rfl) (hpl2 : (backTo pos' (starEach [b] X.env)).any (·.1) = false := by rfl) :
    PE X (.Call (.Name "dict" p) [.Call (.Name "zip" p') [a, b] [] pos'] [] pos) (tI k W (eDictZ m)) := by
  refine ⟨fun pins s σ H Q I ⟨ρ, S, e, sim, sr, h⟩ => ?_⟩
  refine wpAny_Call_Name_kw (ld_blt I hg hm hv (PyProof.Rows.callWith_type1 ?_ he hpl) (by decide) (by decide))
  rw [he]
  show wpAny _ _ (spliced ((false, eval (.Call (.Name "zip" p') [a, b] [] pos') X.env) :: backTo pos (starEach [] X.env))) _ _ s
  refine Calls.spliced_cons (Call_ (ld_blt I hg2 hm2 PyProof.Rows.boot_zip (PyProof.Rows.callWith_type1 (thn (ha.run pos' pins s σ H (fun vs H1 => ∃ ρ1 S1 κ₁ κ₂ v w xs ys kvs, vs = [v, w] ∧ Sim k ρ1 S1 H1 ∧ KdR k ρ1 H1 xs v κ₁ ∧ KdR k ρ1 H1 ys w κ₂ ∧ (∀ z, κ₁ ≠ .s z) ∧ (∀ z, κ₂ ≠ .s z) ∧ zipKD xs ys = some kvs ∧ At k (RpD k) ρ1 H1 (fun c d H' => W c d σ H') (newD kvs S1) Q) I ?_) fun us s1 ⟨vs, H1, J, r1, q1⟩ => ?_) hs hpl2)))
  · refine At.bind sim sr h fun v d ρ1 S1 H1 x1 sim1 sr1 r1 h1 => ?_
    split at h1
    · rename_i x y
      split at h1
      · rename_i hn
        have hn' := Bool.and_eq_true_iff.mp hn
        split at h1
        · rename_i xs ys ex ey
          split at h1
          · rename_i kvs hz
            cases r1 with
            | cons ra rb =>
              cases rb with
              | cons rb rc =>
                cases rc
                obtain ⟨κ₁, k1, n1⟩ := kd_notS sim1 ra ex hn'.1
                obtain ⟨κ₂, k2, n2⟩ := kd_notS sim1 rb ey hn'.2
                exact ⟨ρ1, S1, κ₁, κ₂, _, _, xs, ys, kvs, rfl, sim1, k1, k2, n1, n2, hz, h1⟩
          · exact (show False from h1).elim
        · exact (show False from h1).elim
      · exact (show False from h1).elim
    · exact (show False from h1).elim
  · obtain ⟨ρ1, S1, κ₁, κ₂, v, w, xs, ys, kvs, rfl, sim1, k1, k2, n1, n2, hz, q⟩ := q1
    cases r1 with
    | cons ra rb =>
      cases rb with
      | cons rb rc =>
        cases rc
        have st1 : κ₁.std X.K H1 := hK ▸ k1.st ρ1 H1 (Ext.refl (n := ρ1.length)).to0
        have st2 : κ₂.std X.K H1 := hK ▸ k2.st ρ1 H1 (Ext.refl (n := ρ1.length)).to0
        obtain ⟨o1, B1, b1, g1, i1⟩ := κ₁.begins J st1 (k1.val ▸ ra)
        obtain ⟨o2, B2, b2, g2, i2⟩ := κ₂.begins J st2 (k2.val ▸ rb)
        refine zip_begins2 b1 b2 g1 g2 fun h' hzp ht ho e1 e2 hsz hk => Calls.spliced_nil ?_
        obtain ⟨its, fp1, T1, v1, z1, D1, m1, u1, a1, f1⟩ := κ₁.drawsA s1.heap.objs.size J st1 (Nat.le_refl _) n1
        obtain ⟨jts, fp2, T2, v2, z2, D2, m2, u2, a2, f2⟩ := κ₂.drawsA (s1.heap.objs.size + 1) J st2 (Nat.le_add_right _ _) n2
        obtain ⟨ws, prs, rk, kv, ln, look⟩ := zipKD_rep X.prog X.w k1.vs k2.vs v1 v2 hz
        have C : ZipC (s1.heap.objs.size + 4) (s1.heap.objs.size + 2) (s1.heap.objs.size + 3) s1.heap.objs.size (s1.heap.objs.size + 1) := zipC_new _
        have ge : ∀ j : Nat, s1.heap.objs.size ≤ s1.heap.objs.size + j := fun j => Nat.le_add_right _ _
        have S2 : ZipSep2 (s1.heap.objs.size + 4) (s1.heap.objs.size + 2) (s1.heap.objs.size + 3) s1.heap.objs.size (s1.heap.objs.size + 1) fp1 fp2 := ⟨C.a, C.b, C.c, C.d, m1, f1 _ (ge 4) C.h, f1 _ (ge 3) C.f, C.e, m2, f2 _ (ge 4) C.i, f2 _ (ge 3) C.g, f2 _ (Nat.le_refl _) C.j, f1 _ (ge 1) C.j.symm⟩
        have hh : X.A.handled = none := J.ok.hd hc
        refine PySem.call_dict_pairs (s := { s1 with heap := h' }) (knd := mixKind X.prog X.w) (kvs := prs) (sh_zip_arg S2 D1 D2 a1 a2 X.A hh) hh ⟨hzp, ht, ⟨_, _, ho⟩, u1 _ (i1 _ _ e1) hk, u2 _ (i2 _ _ e2) hk⟩ ⟨ln, fun i x y ⟨ex, ey⟩ => look i x y ex ey⟩ ?_ fun h'' tk hd' kp => ?_
        · exact Nat.le_trans (Nat.min_le_left _ _) (by rw [← v1.length]; exact z1)
        · have old : ∀ b o, s1.heap.get? b = some o → h''.get? b = some o := fun b o e => kp b o (fun mm => by
            have hb := Heap.lt_size e
            simp only [List.mem_cons, List.not_mem_nil, or_false] at mm
            have hle : s1.heap.objs.size ≤ b := mem_new5 _ _ (by
              simp only [List.mem_cons, List.not_mem_nil, or_false]
              rcases mm with q | q | q | q
              · exact .inl q
              · exact .inr (.inr (.inl q))
              · exact .inr (.inr (.inr (.inl q)))
              · exact .inr (.inr (.inr (.inr q))))
            exact absurd hb (Nat.not_lt.mpr hle)) (hk b o e)
          have big : s1.heap.objs.size ≤ h'.objs.size := by rw [hsz]; exact Nat.le_add_right _ _
          have hmm : (h'.objs.size == sysModules) = false := beq_eq_false_iff_ne.mpr (Nat.ne_of_gt (Nat.lt_of_lt_of_le J.big big))
          have hlen : (mergeK [] ws).length ≤ sizeLine := by
            refine Nat.le_trans (length_mergeK ws []) ?_
            rw [List.length_nil, Nat.zero_add, kv.length, ln]
            exact Nat.le_trans (Nat.min_le_left _ _) (by rw [← v1.length]; exact z1)
          exact ⟨.ref h'.objs.size, upd H1 h'.objs.size (.dK (mergeK [] ws)), J.laid (t' := tk) old big (show ObjOk X.prog X.w _ _ _ (.dK (mergeK [] ws)) from ⟨hlen, hmm, merged [] prs, KV.merge kv .nil, hd'⟩), rfl, newD_at sim1 q rk (J.hok.fresh big)⟩
end
end Sh
set_option Elab.async false
set_option linter.all false
set_option maxRecDepth 100000
set_option maxHeartbeats 4000000
namespace Sh
open PySem PySem.Spec PyProof.Rows L2
/-! ### a dict locked for a while -/
section
variable {k : Cn} {ρ : Rho} {H : Hp} {a : Addr} {od : Obj} {ws : List (Key × V)}
theorem SqT.unl {p : Addr} {vs : List V} (ha : H a = some (.frz od (.dK ws))) (h : SqT k.K H p vs) : SqT k.K (upd H a (.dK ws)) p vs := by
  rcases h with (h | ⟨o, h⟩) | h
  · exact .inl (.inl (by rw [upd_ne (fun z => by rw [z, ha] at h; cases h)]; exact h))
  · exact .inl (.inr ⟨o, by rw [upd_ne (fun z => by rw [z, ha] at h; cases h)]; exact h⟩)
  · exact .inr h
mutual
theorem Rep.unl (ha : H a = some (.frz od (.dK ws))) : ∀ {d : D} {v : V}, Rep k ρ H d v → Rep k ρ (upd H a (.dK ws)) d v
  | _, _, .non => .non
  | _, _, .bl b => .bl b
  | _, _, .int i => .int i
  | _, _, .str x => .str x
  | _, _, .ty n => .ty n
  | _, _, .tup h r => .tup (SqT.unl ha h) (Reps.unl ha r)
  | _, _, .lst h n r => .lst (by rw [upd_ne (fun z => by rw [z, ha] at h; cases h)]; exact h) n (Reps.unl ha r)
  | _, _, .fls h r => .fls (h.imp (fun ⟨o, h⟩ => ⟨o, by rw [upd_ne (fun z => by rw [z, ha] at h; cases h)]; exact h⟩) id) (Reps.unl ha r)
  | _, _, .ftp h hd r => .ftp (by rw [upd_ne (fun z => by rw [z, ha] at h; cases h)]; exact h) hd (Reps.unl ha r)
  | _, _, .dic h n r => .dic (by rw [upd_ne (fun z => by rw [z, ha] at h; cases h)]; exact h) n (RepK.unl ha r)
  | _, _, .rng h => .rng (by rw [upd_ne (fun z => by rw [z, ha] at h; cases h)]; exact h)
  | _, _, .loc h => .loc h
theorem Reps.unl (ha : H a = some (.frz od (.dK ws))) : ∀ {d : List D} {v : List V}, Reps k ρ H d v → Reps k ρ (upd H a (.dK ws)) d v
  | _, _, .nil => .nil
  | _, _, .cons r t => .cons (Rep.unl ha r) (Reps.unl ha t)
theorem RepK.unl (ha : H a = some (.frz od (.dK ws))) : ∀ {d : List (Key × D)} {v : List (Key × V)}, RepK k ρ H d v → RepK k ρ (upd H a (.dK ws)) d v
  | _, _, .nil => .nil
  | _, _, .cons r t => .cons (Rep.unl ha r) (RepK.unl ha t)
end
theorem RepF.unl (ha : H a = some (.frz od (.dK ws))) : ∀ {d : List (Str × D)} {v : List (Str × V)}, RepF k ρ H d v → RepF k ρ (upd H a (.dK ws)) d v
  | _, _, .nil => .nil
  | _, _, .cons r t => .cons (Rep.unl ha r) (RepF.unl ha t)
theorem Sim.unl {S : Sto} {l : Nat} {kvs : List (Key × D)} (m : Sim k ρ S H) (hl : ρ.t[l]? = some (some a)) (ha : H a = some (.frz od (.dK ws))) (rk : RepK k ρ H kvs ws) : Sim k ρ (S.set l (.dic kvs)) (upd H a (.dK ws)) := by
  have lt : l < S.length := by rw [← m.len]; exact (List.getElem?_eq_some_iff.mp hl).1
  refine ⟨by simp [m.len], fun b hb => ?_, m.inj, fun l' o e hd => ?_, fun l' b o e1 e2 => ?_⟩
  · obtain ⟨h1, w, h2, h3⟩ := m.raw b hb
    refine ⟨h1, w, ?_, h3⟩
    rw [upd_ne]; exact h2
    rintro rfl
    exact h1 (mem_rho.mpr ⟨l, hl⟩)
  · by_cases h : l' = l
    · subst h; exact ⟨a, hl⟩
    · rw [List.getElem?_set_ne (Ne.symm h)] at e
      exact m.ob l' o e hd
  · by_cases h : l' = l
    · subst h
      rw [hl] at e1; cases e1
      rw [List.getElem?_set_self lt] at e2; cases e2
      exact ⟨ws, upd_same, rk.unl ha⟩
    · rw [List.getElem?_set_ne (Ne.symm h)] at e2
      have nb : b ≠ a := fun z => h (m.inj l' l a (by rw [← z]; exact e1) hl)
      have q := m.at_ l' b o e1 e2
      cases o with
      | lst ds => obtain ⟨vs, q1, q2⟩ := q; exact ⟨vs, by rw [upd_ne nb]; exact q1, q2.unl ha⟩
      | dic ds => obtain ⟨vs, q1, q2⟩ := q; exact ⟨vs, by rw [upd_ne nb]; exact q1, q2.unl ha⟩
      | dicF ds => obtain ⟨o, vs, q1, q2⟩ := q; exact ⟨o, vs, by rw [upd_ne nb]; exact q1, q2.unl ha⟩
      | ins c fs => obtain ⟨dx, vs, q1, q2⟩ := q; exact ⟨dx, vs, by rw [upd_ne nb]; exact q1, q2.unl ha⟩
      | dead => exact q.elim
end
/-- m while the dict that mo tells is locked -/
@[reducible] def eLock (mo m : EM D) : EM D := fun e S => match mo e S with
  | .ok (.loc l) _ => match S[l]? with
    | some (.dic kvs) => match m e (S.set l (.dicF kvs)) with
      | .ok d S3 => .ok d (S3.set l (.dic kvs))
      | _ => .bad
    | _ => .bad
  | _ => .bad
section
variable {X : Cx} {k : Cn} {W : WX} {e : Expr} {mo m : EM D}
theorem c_lock (h : PE X e (tI k W m)) : PE X e (tI k W (eLock mo m)) := (pe_lock h).imp fun σ H Q ⟨ρ, S, en, sim, sr, h⟩ => by
  simp only [eLock] at h
  split at h
  · rename_i l S1 _
    split at h
    · rename_i kvs hS
      obtain ⟨a, hl⟩ := sim.ob l _ hS (by simp)
      obtain ⟨ws, ha, rk⟩ := sim.at_ l a _ hl hS
      have liv : Live ρ a := .inl (mem_rho.mpr ⟨l, hl⟩)
      refine ⟨a, .dK ws, ha, trivial, fun od => ?_⟩
      obtain ⟨x, sm⟩ := sim.write (o := .dicF kvs) (u := .frz od (.dK ws)) hl (fun _ _ z => by rw [ha] at z; cases z) fun x => ⟨od, ws, upd_same, rk.ext sim x⟩
      refine ⟨ρ, S.set l (.dicF kvs), en, sm, sr.ext sim x, ?_⟩
      split at h
      · rename_i d S3 hm
        rw [hm]
        intro v H' ρ' x' sim' r'
        have hf : H' a = some (.frz od (.dK ws)) := x'.fz _ _ _ upd_same
        have hl' : ρ'.t[l]? = some (some a) := x'.old l a (List.getElem?_eq_some_iff.mp hl).1 hl
        refine ⟨hf, h v _ ρ' ⟨x'.old, x'.len, fun b o e n => ?_, fun b o u e => ?_, fun b hb => ?_, x'.hol, fun b hb => ?_⟩ (sim'.unl hl' hf ((rk.ext sim x).ext sm x')) (r'.unl hf)⟩
        · have nb : b ≠ a := fun z => n (by rw [z]; exact liv)
          rw [upd_ne nb]; exact x'.keep b o (by rw [upd_ne nb]; exact e) n
        · have nb : b ≠ a := fun z => by rw [z, ha] at e; cases e
          rw [upd_ne nb]; exact x'.fz b o u (by rw [upd_ne nb]; exact e)
        · rcases x'.new b hb with q | q
          · exact .inl q
          · by_cases z : b = a
            · rw [z]; exact .inl liv
            · rw [upd_ne z] at q; exact .inr q
        · have nb : b ≠ a := fun z => (sim.raw b hb).1 (by rw [z]; exact mem_rho.mpr ⟨l, hl⟩)
          rw [upd_ne nb, x'.hk b hb, upd_ne nb]
      · exact (show False from h).elim
    · exact (show False from h).elim
  · exact (show False from h).elim
end
/-! ### the keys of a locked dict -/
@[reducible] def kD : Key → D
  | .inl i => .int i
  | .inr x => .str x
theorem kD_rep {k : Cn} {ρ : Rho} {H : Hp} (x : Key) : Rep k ρ H (kD x) (kV x) := by
  cases x with
  | inl i => exact .int i
  | inr i => exact .str i
@[reducible] def eKeys (m : EM D) : EM Src := bindE m fun d => fun _ S => match d with
  | .loc l => match S[l]? with
    | some (.dicF kvs) => .ok (.st (kvs.map fun kv => kD kv.1)) S
    | _ => .bad
  | _ => .bad
theorem RepK.keys {k : Cn} {ρ : Rho} {H : Hp} : ∀ {kvs : List (Key × D)} {ws : List (Key × V)}, RepK k ρ H kvs ws → kvs.map (·.1) = ws.map (·.1)
  | _, _, .nil => rfl
  | _, _, .cons r t => by simp only [List.map_cons]; rw [RepK.keys t]
section
variable {X : Cx} {k : Cn} {W : WX} {tg a : Expr} {ma : EM D}
theorem yld_keys {ρ : Rho} {H : Hp} {p : Addr} {o : Obj} {kvs : List (Key × D)} {ws : List (Key × V)} (hp : H p = some (.frz o (.dK ws))) (ek : kvs.map (·.1) = ws.map (·.1)) : Yld k ρ H (.st (kvs.map fun kv => kD kv.1)) (Itk p o ws) := by
  have ln : kvs.length = ws.length := by have := congrArg List.length ek; simpa using this
  refine ⟨fun ρ' S' H' i d x _ h => ?_, fun ρ' S' H' i d v H2 x _ h y => ?_, fun ρ' S' H' i x _ h => ?_⟩
  · have hi : (kvs.map fun kv => kD kv.1)[i]? = some d := by simpa [item] using h
    have := (List.getElem?_eq_some_iff.mp hi).1
    refine ⟨x.fz _ _ _ hp, ?_⟩
    rw [← ln]; simpa using this
  · have hi : (kvs.map fun kv => kD kv.1)[i]? = some d := by simpa [item] using h
    obtain ⟨rfl, key, v', e, rfl⟩ := y
    have e1 : (ws.map (·.1))[i]? = some key := by rw [List.getElem?_map, e]; rfl
    rw [← ek, List.getElem?_map] at e1
    rw [List.getElem?_map] at hi
    cases q : kvs[i]? with
    | none => rw [q] at hi; cases hi
    | some kv =>
      rw [q] at hi e1
      cases hi
      have : kv.1 = key := by simpa using e1
      subst this
      exact ⟨Same.refl _, kD_rep _⟩
  · have hi : (kvs.map fun kv => kD kv.1)[i]? = none := by simpa [item] using h
    have := List.getElem?_eq_none_iff.mp hi
    refine ⟨x.fz _ _ _ hp, ?_⟩
    rw [← ln]; simpa using this
theorem c_keys (ha : PE X a (tI k W ma)) : PI X tg a (tSrc k W (eKeys ma)) := by
  refine ⟨fun pins s σ H R I ⟨ρ, S, e, sim, sr, h⟩ => (pi_keys ha).run pins s σ H R I ?_⟩
  refine At.bind sim sr h fun v d ρ1 S1 H1 x1 sim1 sr1 r1 h1 => ?_
  cases r1 with
  | @loc l p hl =>
    cases q : S1[l]? with
    | none => simp only [q] at h1; exact (show False from h1).elim
    | some ob =>
      simp only [q] at h1
      cases ob with
      | dicF kvs =>
        obtain ⟨o, ws, e1, rk⟩ := sim1.at_ l p _ hl q
        exact ⟨p, o, rfl, .inl ⟨ws, e1, h1 _ H1 ρ1 Ext.refl sim1 (yld_keys e1 rk.keys)⟩⟩
      | _ => exact (show False from h1).elim
  | _ => exact (show False from h1).elim
end
/-! ### dict comprehensions -/
def dcF (b : D → Env → Option Env) (t : EM Bool) (kx vx : EM D) (e : Env) : Nat → Src → Nat → List (Key × D) → Sto → Res (List (Key × D))
  | 0, _, _, _, _ => .bad
  | f + 1, src, i, acc, S => match item S i src with
    | none => .bad
    | some none => .ok acc S
    | some (some d) => match b d e with
      | none => .bad
      | some e1 => match t e1 S with
        | .ok true S1 => match kx e1 S1 with
          | .ok y S2 => match vx e1 S2 with
            | .ok z S3 => match toKey y with
              | some key => if acc.length < cap then dcF b t kx vx e f src (i + 1) (putD acc key z) S3 else .bad
              | none => .bad
            | _ => .bad
          | _ => .bad
        | .ok false S1 => dcF b t kx vx e f src (i + 1) acc S1
        | _ => .bad
@[reducible] def eDcN (own : List Nat) (m : EM Src) (b : D → Env → Option Env) (t : EM Bool) (kx vx : EM D) : EM D := bindE m fun src => fun e S => match dcF b t kx vx (wipeE e own) (fuelOf src) src 0 [] S with
  | .ok kvs S' => .ok (.loc S'.length) (S' ++ [.dic kvs])
  | _ => .bad
section
variable {X : Cx} {k : Cn} {W : WX} {tg iter kx vx : Expr} {ifs : List Expr} {scope : Scope} {pos : Pos} {m : EM Src} {b : D → Env → Option Env} {t : EM Bool} {mk mv : EM D} {ga : TG}
theorem dc_turns {own ws : List Nat} {σ : L2.St} {H1 : Hp} {Q : VK} {J : It} {src : Src} {ρ1 : Rho} {S1 : Sto} {e : Env} {C : Addr} {all : List (Key × D)} {Sz : Sto} (hg : TgOk k.K ga b ws) (hw : ∀ j ∈ ws, j ∈ own) (sim1 : Sim k ρ1 S1 H1) (sr1 : SRep k ρ1 H1 e σ) (yl : Yld k ρ1 H1 src J) (hD : H1 C = none)
    (hall : dcF b t mk mv (wipeE e own) (fuelOf src) src 0 [] S1 = .ok all Sz)
    (fin : ∀ ρ' H' vs, ExtD C ρ1 ρ' H1 H' → Sim k ρ' Sz H' → H' C = some (.dK vs) → RepK k ρ' H' all vs → Q (.ref C) H') :
    ∃ W : Nat → Nat → Hp → Prop, (∃ m, W 0 m (upd H1 C (.dK []))) ∧ ∀ i m H, W i m H →
      (J.stop i H ∧ Q (.ref C) H) ∨ (J.go i H ∧ ∃ Nx : Hp → Prop, (∀ H', Nx H' → ∃ m', m' < m ∧ W (i + 1) m' H') ∧ ∀ x H', J.yld i H x H' → ga x (wipe σ own) H' fun σ2 H2 => wipe σ2 own = wipe σ own ∧ tT k W0 t σ2 H2 fun bb H3 =>
        if bb = true then tI k W0 mk σ2 H3 fun y H4 => tI k W0 mv σ2 H4 fun z H5 => ∃ kvs key, y = kV key ∧ H5 C = some (.dK kvs) ∧ kvs.length < sizeLine ∧ Nx (upd H5 C (.dK (putK kvs key z))) else Nx H3) := by
  refine ⟨fun i mm H' => ∃ ρ' S' don acc, ExtD C ρ1 ρ' H1 H' ∧ Sim k ρ' S' H' ∧ H' C = some (.dK acc) ∧ RepK k ρ' H' don acc ∧ dcF b t mk mv (wipeE e own) mm src i don S' = .ok all Sz, ?_, ?_⟩
  · obtain ⟨x, m⟩ := ExtD.start (u := .dK []) sim1 hD (.inr ⟨_, rfl⟩)
    exact ⟨fuelOf src, ρ1.hole C, S1, [], [], x, m, upd_same, .nil, hall⟩
  · rintro i mm H' ⟨ρ', S', don, acc, x', sim', hD', rs, h'⟩
    cases mm with
    | zero => cases h'
    | succ f =>
      rw [dcF] at h'
      cases q : item S' i src with
      | none => simp only [q] at h'; cases h'
      | some o =>
        simp only [q] at h'
        cases o with
        | none =>
          cases h'
          exact .inl ⟨yl.stop ρ' _ H' i x'.e sim' q, fin ρ' H' acc x' sim' hD' rs⟩
        | some d =>
          refine .inr ⟨yl.go ρ' S' H' i d x'.e sim' q, _, fun H2 w => ⟨f, Nat.lt_succ_self _, w⟩, fun x H2 y => ?_⟩
          obtain ⟨sa, rx⟩ := yl.yld ρ' S' H' i d x H2 x'.e sim' q y
          have xs : Ext ρ'.length ρ' ρ' H' H2 := Ext.same sim' sa
          have sim2 := sim'.same sa
          cases qb : b d (wipeE e own) with
          | none => simp only [qb] at h'; cases h'
          | some e1 =>
            simp only [qb] at h'
            have sr2 : SRep k ρ' H2 e σ := (sr1.ext0 sim1 x'.e).ext sim' xs
            refine hg k ρ' H2 x d _ e1 _ _ rfl rx (sr2.wipe own) qb fun σ2 srt l2 o2 => ⟨?_, ?_⟩
            · exact wipe_eq (l2.trans (wipe_length _ _)) own fun j hj => o2 j fun z => hj (hw j z)
            · refine ⟨ρ', S', e1, sim2, srt, ?_⟩
              cases qt : t e1 S' with
              | bad => simp only [qt] at h'; cases h'
              | ex y1 S3 => simp only [qt] at h'; cases h'
              | ok bb S3 =>
                intro b2 H3 ρ3 x3 sim3 eb
                obtain rfl : bb = b2 := eb
                have hC : C ∈ ρ'.h := by rw [x'.hol]; exact List.mem_cons_self
                have hD3 : H3 C = some (.dK acc) := by rw [x3.hk C hC]; exact sa C _ hD'
                have xx : ExtD C ρ1 ρ3 H1 H3 := (x'.more xs).more x3
                have rs3 : RepK k ρ3 H3 don acc := (rs.ext sim' xs).ext sim2 x3
                cases bb with
                | false =>
                  simp only [qt] at h'
                  rw [if_neg Bool.false_ne_true]
                  exact ⟨ρ3, S3, don, acc, xx, sim3, hD3, rs3, h'⟩
                | true =>
                  simp only [qt] at h'
                  rw [if_pos rfl]
                  refine ⟨ρ3, S3, e1, sim3, srt.ext sim2 x3, ?_⟩
                  cases ql : mk e1 S3 with
                  | bad => simp only [ql] at h'; cases h'
                  | ex y1 S4 => simp only [ql] at h'; cases h'
                  | ok yv S4 =>
                    simp only [ql] at h'
                    intro y4 H4 ρ4 x4 sim4 ry
                    refine ⟨ρ4, S4, e1, sim4, (srt.ext sim2 x3).ext sim3 x4, ?_⟩
                    cases qv : mv e1 S4 with
                    | bad => simp only [qv] at h'; cases h'
                    | ex y1 S5 => simp only [qv] at h'; cases h'
                    | ok zv S5 =>
                      simp only [qv] at h'
                      intro z5 H5 ρ5 x5 sim5 rz
                      cases qk : toKey yv with
                      | none => simp only [qk] at h'; cases h'
                      | some key =>
                        simp only [qk] at h'
                        have x6 : ExtD C ρ1 ρ5 H1 H5 := (xx.more x4).more x5
                        have hC3 : C ∈ ρ3.h := by rw [xx.hol]; exact List.mem_cons_self
                        have hC4 : C ∈ ρ4.h := by rw [(xx.more x4).hol]; exact List.mem_cons_self
                        have hC5 : C ∈ ρ5.h := by rw [x6.hol]; exact List.mem_cons_self
                        have hD5 : H5 C = some (.dK acc) := by rw [x5.hk C hC4, x4.hk C hC3]; exact hD3
                        have rs5 : RepK k ρ5 H5 don acc := (rs3.ext sim3 x4).ext sim4 x5
                        by_cases hcap : don.length < cap
                        · rw [if_pos hcap] at h'
                          refine ⟨acc, key, ry.key qk, hD5, ?_, ?_⟩
                          · rw [← rs5.length]; exact Nat.lt_of_lt_of_le hcap (by decide)
                          · obtain ⟨xw, simw⟩ := hole_write (u := .dK (putK acc key z5)) sim5 hC5 (.inr ⟨_, rfl⟩)
                            exact ⟨ρ5, S5, putD don key zv, putK acc key z5, x6.write sim1 hD, simw, upd_same, (rs5.put (x := key) rz).ext0 sim5 xw, h'⟩
                        · rw [if_neg hcap] at h'; cases h'
theorem dcN_read {own ws : List Nat} {σ : L2.St} {H : Hp} {Q : VK} (hg : TgOk k.K ga b ws) (hw : ∀ j ∈ ws, j ∈ own) (h : tI k W (eDcN own m b t mk mv) σ H Q) : tDc (tSrc k W m) ga (tT k W0 t) (tI k W0 mk) (tI k W0 mv) own σ H Q := by
  obtain ⟨ρ, S, e, sim, sr, h⟩ := h
  refine At.bind sim sr h fun J src ρ1 S1 H1 x1 sim1 sr1 yl h1 => ?_
  intro C hD
  cases hall : dcF b t mk mv (wipeE e own) (fuelOf src) src 0 [] S1 with
  | bad => rw [hall] at h1; exact (show False from h1).elim
  | ex y S2 => rw [hall] at h1; exact (show False from h1).elim
  | ok all Sz =>
    rw [hall] at h1
    refine dc_turns hg hw sim1 sr1 yl hD hall fun ρ' H' vs x m hv rs => ?_
    have hh : C ∉ ρ1.h := fun z => by
      obtain ⟨_, w, hw', _⟩ := sim1.raw C z
      rw [hD] at hw'; cases hw'
    obtain ⟨x2, m2⟩ := x.toLoc (o := .dic all) m hD hh fun z => ⟨vs, hv, rs.ext0 m z⟩
    exact h1 _ H' _ x2 m2 (loc_last m.len)
theorem c_dcN {own : List (Str × Nat)} {ws : List Nat} (hc : X.calm = true) (hN : X.N.Nodup) (hi : PI X tg iter (tSrc k W m)) (ok : BlkOk X.N X.env.scope scope own)
    (hg : ∀ (s : Shared) (H : Hp) (C : Addr) (cl : List (Str × Addr)) (fp : List Addr), PG (X.blk s H scope (compEnvC scope cl C X.env) fp) tg ga) (htg : TgOk k.K ga b ws)
    (ht : ∀ (s : Shared) (H : Hp) (C : Addr) (cl : List (Str × Addr)) (fp : List Addr), PTs (X.blk s H scope (compEnvC scope cl C X.env) fp) ifs (tT k W0 t))
    (hk : ∀ (s : Shared) (H : Hp) (C : Addr) (cl : List (Str × Addr)) (fp : List Addr), PE (X.blk s H scope (compEnvC scope cl C X.env) fp) kx (tI k W0 mk))
    (he : ∀ (s : Shared) (H : Hp) (C : Addr) (cl : List (Str × Addr)) (fp : List Addr), PE (X.blk s H scope (compEnvC scope cl C X.env) fp) vx (tI k W0 mv))
    (hw : ∀ j ∈ ws, j ∈ own.map (·.2) := by decide) (hs : ∀ x, foldedSetIterable iter X.env x = pure x := by intro _; rfl) :
    PE X (.DictComp kx vx [⟨tg, iter, ifs, 0⟩] scope pos) (tI k W (eDcN (own.map (·.2)) m b t mk mv)) := (pe_dc hc hN hi ok hg ht hk he hs).imp fun _ _ _ h => dcN_read htg hw h
end
end Sh
set_option Elab.async false
set_option linter.all false
set_option maxRecDepth 100000
set_option maxHeartbeats 4000000
namespace Sh
open PySem PySem.Spec PyProof.Rows L2
/-! ### repr -/
def fitR (p : PyData) : Bool := p.showable && (p.layable0 && (p.intsShort 13 && (!p.hasDict && decide (p.depth ≤ 40))))
def gRepr : List D → Option D
  | [d] => match toPy d with
    | some p => if fitR p = true then some (.str p.shown) else none
    | none => none
  | _ => none
section
variable {X : Cx} {k : Cn} {W : WX}
theorem f_repr (gu : X.A.guards = some []) (hu : X.A.units + 64 < cLine) (hK : k.K = X.K := by rfl) : CallM k X (.builtin "repr") gRepr := by
  intro ρ S ds d hg pins s σ H xs us Q I rv m rr q
  unfold gRepr at hg
  split at hg
  · rename_i d0
    obtain ⟨v, rfl, r⟩ := rr1 rr
    cases hp : toPy d0 with
    | none => rw [hp] at hg; cases hg
    | some p =>
      rw [hp] at hg
      simp only at hg
      split at hg
      · rename_i hf
        cases hg
        obtain ⟨u, rfl, ru⟩ := vals1 rv
        have dp : Dp X.K H v p := hK ▸ r.dp hp
        obtain ⟨as, rd⟩ := Dp.reads I p v u dp ru
        simp only [fitR, Bool.and_eq_true, decide_eq_true_eq] at hf
        obtain ⟨h1, h2, h3, h4, h5⟩ := hf
        have hz : p.shown.length ≤ sizeLine := Nat.le_trans (shown_le13 h2 h3) (by decide)
        have fin : ∀ (h' : Heap) (t : Tok) (tk : Nat), (∀ b o, s.heap.get? b = some o → h'.get? b = some o) → EP X pins σ Q (.str p.shown t) { s with heap := h', toks := tk } := fun h' t tk hk => ⟨.str p.shown, H, I.kept (t' := tk) hk, ⟨t, rfl⟩, q _ H (Same.refl _) (.str _)⟩
        cases rd with
        | none => exact PySem.P.repr_of_none (fin _ _ _ fun _ _ e => e)
        | bool b =>
          refine PySem.P.repr_of_bool ?_
          have e : (PyData.bool b).shown = if b = true then ("True" : Str) else "False" := by simp only [PyData.shown]
          rw [← e]
          exact fin _ _ _ fun _ _ e => e
        | int i t =>
          refine PySem.P.repr_of_int ?_ (fin _ _ _ fun _ _ e => e)
          simpa [PyData.showable] using h1
        | str x t => exact PySem.P.repr_of_str (fin _ _ _ fun _ _ e => e) hz
        | dict => exact absurd h4 (by simp [PyData.hasDict])
        | _ => exact repr_of_reads' (h₀ := s.heap) (by first | exact .list (by assumption) (by assumption) (by assumption) (by assumption) | exact .tuple (by assumption) (by assumption) (by assumption) (by assumption)) h1 (fun z => by rw [z] at h4; cases h4) gu (by omega) (fun _ _ e => e) (fun h' u tk hk => fin h' u tk hk) hz
      · cases hg
  · cases hg
end
/-! ### written dicts with text keys -/
def KTab (k : Cn) (w : World) (a : Addr) (tab : List (Str × D)) : Prop := ∃ es n, k.K.lookup a = some ⟨.type "dict", none, .dict es n, #[]⟩ ∧ PySem.W.KeysLit w.params es.toList ∧ (a == sysModules) = false ∧
  Paired (fun (e : DictEntry) (kv : Str × D) => ∃ t v, e.key = .str kv.1 t ∧ RelV v e.val ∧ GRep k kv.2 v) es.toList tab
@[reducible] def eKGet (tab : List (Str × D)) (mi : EM D) : EM D := bindE mi fun i => fun _ S => match i with
  | .str x => .ok ((tab.lookup x).getD .non) S
  | _ => .bad
theorem ktab_find {k : Cn} {x : Str} : ∀ {l : List DictEntry} {tab : List (Str × D)}, Paired (fun (e : DictEntry) (kv : Str × D) => ∃ t v, e.key = .str kv.1 t ∧ RelV v e.val ∧ GRep k kv.2 v) l tab →
    ∃ v, RelV v (((l.find? fun e => Value.isStrOf x e.key).map (·.val)).getD .none) ∧ GRep k ((tab.lookup x).getD .non) v
  | _, _, .nil => ⟨.non, rfl, fun _ _ => .non⟩
  | _, _, .cons (a := e) (b := kv) h t => by
    obtain ⟨tk, v, e1, e2, e3⟩ := h
    rw [List.find?_cons, List.lookup_cons, e1]
    by_cases q : x = kv.1
    · have q1 : Value.isStrOf x (Value.str kv.1 tk) = true := by subst q; simp [Value.isStrOf]
      have q2 : (x == kv.1) = true := by simp [q]
      rw [q1, q2]
      exact ⟨v, e2, e3⟩
    · have q1 : Value.isStrOf x (Value.str kv.1 tk) = false := by simp [Value.isStrOf]; exact fun z => q z.symm
      have q2 : (x == kv.1) = false := by simp [q]
      rw [q1, q2]
      exact ktab_find t
section
variable {X : Cx} {k : Cn} {W : WX} {i : Expr} {apos cpos p : Pos} {mi : EM D} {y : Str}
theorem c_kget {a : Addr} {tab : List (Str × D)} (hm : X.mg y = some (.ref a)) (T : KTab k X.w a tab) (hi : PE X i (tI k W mi)) (hK : k.K = X.K := by rfl) (hg : Gl X y := by rfl) (hd : (y == ("__debug__" : Str)) = false := by decide)
    (m : M1 X (.Name y p) "get" apos i cpos := by exact ⟨rfl, rfl, rfl, rfl⟩) : PE X (.Call (.Attribute (.Name y p) "get" apos) [i] [] cpos) (tI k W (eKGet tab mi)) := by
  obtain ⟨es, n, hl, hk, low, pr⟩ := T
  rw [hK] at hl
  refine ⟨fun pins s σ H Q I ⟨ρ, S, e, sim, sr, h⟩ => ?_⟩
  refine wpAny_Call_method m.base m.few m.line PySem.F.plainAttrs_dict PySem.F.slot_dict_get PySem.F.type_dict_get (ld_glob I hg hm ?_ hd)
  have mo := PySem.W.mapOf_K (prog := X.prog) (w := X.w) I.kIn hl hk
  refine ⟨mo.typeIs, fun b q => by cases q; exact ⟨_, I.kIn _ _ hl, rfl⟩, ?_⟩
  rw [m.trees]
  refine Calls.callWith_builtin rfl (Calls.evalArgs_plain (Calls.spliced_cons (thn (hi.run pins s σ H (fun v H1 => ∃ x, v = .str x ∧ ∀ z, GRep k ((tab.lookup x).getD .non) z → Q z H1) I ?_) fun iv s2 ⟨v, H2, J, ry, x, ev, q2⟩ => Calls.spliced_nil ?_)))
  · refine At.bind sim sr h fun v d ρ1 S1 H1 x1 sim1 sr1 r1 h1 => ?_
    split at h1
    · rename_i x
      cases r1
      exact ⟨x, rfl, fun z gz => h1 _ H1 ρ1 Ext.refl sim1 (gz ρ1 H1)⟩
    · exact (show False from h1).elim
  · subst ev
    obtain ⟨t, rfl⟩ := ry
    have mo2 := PySem.W.mapOf_K (prog := X.prog) (w := X.w) J.kIn hl hk
    obtain ⟨z, rz, gz⟩ := ktab_find (x := x) pr
    refine call_meetsIn PySem.F.slot_dict_get mo2.typeIs PySem.F.entry_dict_get (PySem.F.args_dict_get_2 _ _) (meets_dict_get (strKind X.prog X.w) a (strKind_is X.prog X.w x t) low) ⟨_, mo2, ⟨z, H2, J.tok _, ?_, q2 z gz⟩⟩
    have ef : findBy Value.isStrOf es x = (es.toList.find? fun e => Value.isStrOf x e.key).map (·.val) := by
      unfold findBy; rw [← Array.find?_toList]
    rw [ef]
    exact rz
end
/-! ### constants of the text -/
def GReps (k : Cn) (ds : List D) (vs : List V) : Prop := ∀ ρ H, Reps k ρ H ds vs
theorem gr_nil {k : Cn} : GReps k [] [] := fun _ _ => .nil
theorem gr_cons {k : Cn} {d : D} {v : V} {ds : List D} {vs : List V} (h : GRep k d v) (t : GReps k ds vs) : GReps k (d :: ds) (v :: vs) := fun ρ H => .cons (h ρ H) (t ρ H)
theorem g_int {k : Cn} (i : Int) : GRep k (.int i) (.int i) := fun _ _ => .int i
theorem g_str {k : Cn} (x : Str) : GRep k (.str x) (.str x) := fun _ _ => .str x
theorem g_tup' {k : Cn} {a : Addr} {o : Obj} {its : Array Value} {n : Nat} {vs : List V} {ds : List D} (hl : k.K.lookup a = some o) (hc : o.cls = .type "tuple") (hd : o.dict = none) (hdt : o.data = .seq its n) (hz : its.size ≤ sizeLine) (hv : Vals vs its.toList) (g : GReps k ds vs) : GRep k (.tup ds) (.ref a) :=
  fun ρ H => .tup (.inr ⟨o, its, n, hl, hc, hdt, hz, hv⟩) (g ρ H)
/-! ### tuple(range(n)), list(range(n)) -/
@[reducible] def eTupR (m : EM D) : EM D := bindE m fun d => fun _ S => match d with
  | .int n => if 0 ≤ n ∧ n ≤ 1000 then .ok (.tup (rngD 0 n.toNat)) S else .bad
  | _ => .bad
@[reducible] def eLstR (m : EM D) : EM D := bindE m fun d => fun _ S => match d with
  | .int n => if 0 ≤ n ∧ n ≤ 1000 then .ok (.lst (rngD 0 n.toNat)) S else .bad
  | _ => .bad
theorem map_reps {k : Cn} {ρ : Rho} {H : Hp} (f : Nat → D) (g : Nat → V) (h : ∀ i, Rep k ρ H (f i) (g i)) : ∀ l : List Nat, Reps k ρ H (l.map f) (l.map g)
  | [] => .nil
  | i :: r => .cons (h i) (map_reps f g h r)
theorem rng_reps {k : Cn} {ρ : Rho} {H : Hp} (n : Int) : Reps k ρ H (rngD 0 n.toNat) (rgV 0 n) := by
  unfold rngD rgV
  rw [show (n - 0).toNat = n.toNat by rw [Int.sub_zero]]
  exact map_reps _ _ (fun i => .int _) _
section
variable {X : Cx} {k : Cn} {W : WX} {a : Expr} {p p' pos pos' : Pos} {m : EM D}
theorem c_tupR (hc : X.calm = true) (hm : X.mg "tuple" = none) (hm2 : X.mg "range" = none) (ha : PE X a (tI k W m)) (hg : Gl X "tuple" := by rfl) (hg2 : Gl X "range" := by rfl) (na : starEach [a] X.env = (false, eval a X.env) :: starEach [] X.env := by rfl)
    (nb : starEach [.Call (.Name "range" p') [a] [] pos'] X.env = (false, eval (.Call (.Name "range" p') [a] [] pos') X.env) :: starEach [] X.env := by rfl) : PE X (.Call (.Name "tuple" p) [.Call (.Name "range" p') [a] [] pos'] [] pos) (tI k W (eTupR m)) :=
  (pe_tupRg hc hg hm (prg_1 hg2 hm2 ha na) nb).imp fun σ H Q ⟨ρ, S, e, sim, sr, h⟩ => by
  refine At.bind sim sr h fun v d ρ1 S1 H1 x1 sim1 sr1 r1 h1 => ?_
  split at h1
  · rename_i n
    split at h1
    · rename_i hn
      cases r1
      refine ⟨n, rfl, ⟨by omega, by omega, by omega, by omega, by omega⟩, fun q hq => ?_⟩
      exact h1 _ _ ρ1 (Ext.same sim1 (same_new hq)) (sim1.same (same_new hq)) (Rep.newT sim1 hq (rng_reps n))
    · exact (show False from h1).elim
  · exact (show False from h1).elim
theorem c_lstR (hc : X.calm = true) (hm : X.mg "list" = none) (hm2 : X.mg "range" = none) (ha : PE X a (tI k W m)) (hg : Gl X "list" := by rfl) (hg2 : Gl X "range" := by rfl) (na : starEach [a] X.env = (false, eval a X.env) :: starEach [] X.env := by rfl)
    (nb : starEach [.Call (.Name "range" p') [a] [] pos'] X.env = (false, eval (.Call (.Name "range" p') [a] [] pos') X.env) :: starEach [] X.env := by rfl) : PE X (.Call (.Name "list" p) [.Call (.Name "range" p') [a] [] pos'] [] pos) (tI k W (eLstR m)) :=
  (pe_listRg hc hg hm (prg_1 hg2 hm2 ha na) nb).imp fun σ H Q ⟨ρ, S, e, sim, sr, h⟩ => by
  refine At.bind sim sr h fun v d ρ1 S1 H1 x1 sim1 sr1 r1 h1 => ?_
  split at h1
  · rename_i n
    split at h1
    · rename_i hn
      cases r1
      refine ⟨n, rfl, ⟨by omega, by omega, by omega, by omega, by omega⟩, fun q hq => ?_⟩
      exact h1 _ _ ρ1 (Ext.same sim1 (same_new hq)) (sim1.same (same_new hq)) (Rep.newL sim1 hq (rng_reps n))
    · exact (show False from h1).elim
  · exact (show False from h1).elim
end
end Sh
set_option Elab.async false
set_option linter.all false
set_option maxRecDepth 100000
set_option maxHeartbeats 4000000
namespace Sh
open PySem PySem.Spec PyProof.Rows L2
/-! ### constants, looked at -/
mutual
def isK (K : PySem.W.Frag) : D → Value → Bool
  | .non, .none => true
  | .bl b, .bool c => b == c
  | .int i, .int j _ => decide (i = j)
  | .str x, .str y _ => decide (x = y)
  | .tup ds, .ref a => match K.lookup a with
    | some ⟨.type c, none, .seq its _, _⟩ => decide (c = "tuple") && (decide (its.size ≤ sizeLine) && isKs K ds its.toList)
    | _ => false
  | _, _ => false
def isKs (K : PySem.W.Frag) : List D → List Value → Bool
  | [], [] => true
  | d :: ds, u :: us => isK K d u && isKs K ds us
  | _, _ => false
end
mutual
theorem isK_ok {k : Cn} : ∀ {d : D} {u : Value}, isK k.K d u = true → ∃ v, RelV v u ∧ GRep k d v
  | .non, u, h => by
    cases u with
    | none => exact ⟨.non, rfl, fun _ _ => .non⟩
    | _ => simp [isK] at h
  | .bl b, u, h => by
    cases u with
    | bool c => simp [isK] at h; subst h; exact ⟨.bl b, rfl, fun _ _ => .bl b⟩
    | _ => simp [isK] at h
  | .int i, u, h => by
    cases u with
    | int j t => simp [isK] at h; subst h; exact ⟨.int i, ⟨t, rfl⟩, fun _ _ => .int i⟩
    | _ => simp [isK] at h
  | .str x, u, h => by
    cases u with
    | str j t => simp [isK] at h; subst h; exact ⟨.str x, ⟨t, rfl⟩, fun _ _ => .str x⟩
    | _ => simp [isK] at h
  | .tup ds, u, h => by
    cases u with
    | ref a =>
      simp only [isK] at h
      split at h
      · rename_i c its n sl q
        simp only [Bool.and_eq_true, decide_eq_true_eq] at h
        obtain ⟨h1, h2, h3⟩ := h
        subst h1
        obtain ⟨vs, hv, g⟩ := isKs_ok h3
        exact ⟨.ref a, rfl, g_tup' q rfl rfl rfl h2 hv g⟩
      · cases h
    | _ => simp [isK] at h
  | .lst _, u, h => by cases u <;> simp [isK] at h
  | .fls _, u, h => by cases u <;> simp [isK] at h
  | .ftp _, u, h => by cases u <;> simp [isK] at h
  | .dic _, u, h => by cases u <;> simp [isK] at h
  | .loc _, u, h => by cases u <;> simp [isK] at h
  | .ty _, u, h => by cases u <;> simp [isK] at h
  | .rng _ _, u, h => by cases u <;> simp [isK] at h
theorem isKs_ok {k : Cn} : ∀ {ds : List D} {us : List Value}, isKs k.K ds us = true → ∃ vs, Vals vs us ∧ GReps k ds vs
  | [], [], _ => ⟨[], .nil, gr_nil⟩
  | [], _ :: _, h => by simp [isKs] at h
  | _ :: _, [], h => by simp [isKs] at h
  | d :: ds, u :: us, h => by
    simp only [isKs, Bool.and_eq_true] at h
    obtain ⟨v, r, g⟩ := isK_ok h.1
    obtain ⟨vs, rs, gs⟩ := isKs_ok h.2
    exact ⟨v :: vs, .cons r rs, gr_cons g gs⟩
end
/-- a name of the module stands for the constant d -/
def conK (K : PySem.W.Frag) (x : Str) (d : D) : Bool := match PySem.W.nsIn K mainGlobals x with
  | some (some u) => isK K d u
  | _ => false
structure GCon (k : Cn) (mg : Str → Option Value) (x : Str) (d : D) : Prop where
  ex : ∃ u v, mg x = some u ∧ RelV v u ∧ GRep k d v
theorem con_ok {k : Cn} {h : Heap} {mg : Str → Option Value} {x : Str} {d : D} (X : k.K.In h) (G : h.Ns mainGlobals mg) (c : conK k.K x d = true) : GCon k mg x d := by
  unfold conK at c
  split at c
  · rename_i u q
    obtain ⟨v, r, g⟩ := isK_ok c
    exact ⟨u, v, PySem.W.mg_of X G q, r, g⟩
  · cases c
theorem c_gcon {X : Cx} {k : Cn} {W : WX} {x : Str} {d : D} {pos : Pos} (c : GCon k X.mg x d) (hg : Gl X x := by rfl) (hd : (x == ("__debug__" : Str)) = false := by decide) : PE X (.Name x pos) (tI k W (eC d)) := by
  obtain ⟨u, v, h1, h2, h3⟩ := c.ex
  exact c_glob h1 h2 h3 hg hd
/-! ### written dicts, looked at -/
def tabK (K : PySem.W.Frag) : List DictEntry → List (Str × D) → Bool
  | [], [] => true
  | e :: es, kv :: r => (match e.key with
    | .str x _ => decide (x = kv.1)
    | _ => false) && (isK K kv.2 e.val && tabK K es r)
  | _, _ => false
theorem tabK_ok {k : Cn} : ∀ {es : List DictEntry} {tab : List (Str × D)}, tabK k.K es tab = true → Paired (fun (e : DictEntry) (kv : Str × D) => ∃ t v, e.key = .str kv.1 t ∧ RelV v e.val ∧ GRep k kv.2 v) es tab
  | [], [], _ => .nil
  | [], _ :: _, h => by simp [tabK] at h
  | _ :: _, [], h => by simp [tabK] at h
  | e :: es, kv :: r, h => by
    simp only [tabK, Bool.and_eq_true] at h
    obtain ⟨h1, h2, h3⟩ := h
    obtain ⟨v, rv, g⟩ := isK_ok h2
    refine .cons ?_ (tabK_ok h3)
    split at h1
    · rename_i x t q
      have : x = kv.1 := of_decide_eq_true h1
      exact ⟨t, v, by rw [q, this], rv, g⟩
    · cases h1
def tabAt (K : PySem.W.Frag) (x : Str) (tab : List (Str × D)) : Bool := match K.lookup (He.ga K x) with
  | some ⟨_, _, .dict es _, _⟩ => tabK K es.toList tab
  | _ => false
theorem tab_ok {k : Cn} {w : World} {x : Str} {tab : List (Str × D)} (T : ∃ es n, KDict k.K w (He.ga k.K x) es n) (h : tabAt k.K x tab = true) : KTab k w (He.ga k.K x) tab := by
  obtain ⟨es, n, h1, h2, h3⟩ := T
  refine ⟨es, n, h1, h2, h3, tabK_ok ?_⟩
  unfold tabAt at h
  rw [h1] at h
  exact h
/-! ### the Hook -/
abbrev AlS : Type := He.AlT × Bool
def obsS (n : Nat) (fa : List He.Fa) (fn : List He.DefD) (ts : List He.Tab) (ex : PySem.W.Frag → Bool) (g : Addr → Option Obj) : AlS := (He.obsT fa fn ts (He.frG g (He.asD g n)), ex (He.frG g (He.asD g n)))
def hookS (n : Nat) (fa : List He.Fa) (fn : List He.DefD) (ts : List He.Tab) (ex : PySem.W.Frag → Bool) : PySem.W.Hook where
  α := AlS
  obs := fun s => obsS n fa fn ts ex s.heap.get?
  val := fun w => (He.valT fn ts w, true)
  says := fun w h => ∃ K : PySem.W.Frag, K.In h ∧ He.SaysT fa fn ts w K ∧ ex K = true
  of := fun _ _ e => ⟨_, He.frG_in, congrArg (fun z : AlS => z.1) e, congrArg (fun z : AlS => z.2) e⟩
  keeps := fun _ _ _ ⟨K, hK, c⟩ kp => ⟨K, PySem.W.Frag.In.keeps hK kp, c⟩
theorem obsS_eq {n : Nat} {fa : List He.Fa} {fn : List He.DefD} {ts : List He.Tab} {ex : PySem.W.Frag → Bool} {g : Addr → Option Obj} {s : Shared} (h : ∀ a, g a = s.heap.get? a) : obsS n fa fn ts ex g = (hookS n fa fn ts ex).obs s := by
  have e : g = s.heap.get? := funext h
  rw [e] <;> rfl
theorem funD_fun {K : PySem.W.Frag} {x qual : Str} {st : Stmt} {f : Addr} {fd : FuncData} (F : FunD K x qual (defArgs st) (defBody st) (defScope st) [] [] f fd) : L2.Fun K x qual st f fd := by
  obtain ⟨oc, od, dV, kV, doc, pm, an, cdv, ct, osl, rfl, lk, hcd, hD, hK⟩ := F.ex
  rcases hD with ⟨_, rfl⟩ | ⟨e, _⟩
  · exact ⟨⟨oc, od, kV, doc, pm, an, cdv, ct, osl, rfl, lk, hcd⟩, F.kp⟩
  · exact absurd rfl e
theorem fn_okT {P : Program} {w : World} {K : PySem.W.Frag} {mg : Str → Option Value} {base : Heap} {k : Cn} {x qual : Str} {st : Stmt} {f : Addr} {fd : FuncData} {N ps : List Str} {lv : Nat} {body : SM} (F : L2.Fun K x qual st f fd) (S : FnScope N ps (defScope st))
    (hb : ∀ (cdv : Value) (A : Around) (outer : List PySem.Env) (s : Shared) (H : Hp) (E : XK) (m : Nat), A.guards = some [] → Room lv (A.deeper (envOfC qual (defScope st) s.heap.objs.size f cdv)) →
      Takes (cxOf (L2.CX P w) P w K mg base N qual (defScope st) f cdv A outer s H E) (fun c d _ H' => E c d H') →
      PassesOwn (model (cxOf (L2.CX P w) P w K mg base N qual (defScope st) f cdv A outer s H E).prog (cxOf (L2.CX P w) P w K mg base N qual (defScope st) f cdv A outer s H E).w) (cxOf (L2.CX P w) P w K mg base N qual (defScope st) f cdv A outer s H E).A (cxOf (L2.CX P w) P w K mg base N qual (defScope st) f cdv A outer s H E).env (cxOf (L2.CX P w) P w K mg base N qual (defScope st) f cdv A outer s H E).xe →
      PSs (cxOf (L2.CX P w) P w K mg base N qual (defScope st) f cdv A outer s H E) (defBody st) (tS k (fun c d _ H' => E c d H') m body)) :
    FnG P w K mg base (lv + 1) f fd ps (spM k (fnM ps.length N.length body)) :=
  fn_okG F S fun cdv A outer s H E m gu hr => hb cdv A outer s H E m gu hr (takes_of (E := E) rfl rfl rfl rfl) (passes_of rfl)
/-- one def of the text -/
@[reducible] def dS (at_ : Str × Option Str) (name qual : Str) (st : Stmt) : He.DefD := ⟨at_, name, qual, defArgs st, defBody st, defScope st, [], []⟩
theorem walkS {l : PySem.W.OpenLaw} {n lv : Nat} {q : Program} {loose : List Str} {XP : (Str → Option Value) → Heap → Prop} {YP : World → Heap → Prop} {d : DefRec} {x : Str} {fn : List D → Sto → Res D}
    (hn : l.most = some n) (hn2 : n ≤ sizeLine) (hdf : d.params.defaults = []) (hr : Room lv callerA)
    (F : ∀ (w : World) (mg : Str → Option Value) (fa : Addr) (h : Heap), YP w h → h.Ns mainGlobals mg → mg d.name = some (.ref fa) →
      ∃ (k : Cn) (fd : FuncData), k.K.In h ∧ (∀ (s : Shared) (u : Value), BindsTo s fd ⟨[u], []⟩ [(x, u)]) ∧ ∀ base : Heap, k.K.In base → base.Ns mainGlobals mg → FnG l.prog w k.K mg base lv fa fd [x] (spM k fn))
    (law : ∀ ns : List Int, ns.length ≤ n → ∃ S', fn [.fls (ns.map .int)] [] = .ok (.bl true) S') :
    PySem.W.WalkO q loose XP YP l.row.toRowW d [] (fun f vs => PySem.call f vs) := by
  refine Att.attach_call hn hdf fun w s₀ s₁ mg mb fa o pm cd doc a vs ns G Y ho hd hcd hmg hobj hints hlen hg => ?_
  obtain ⟨k, fd, KX, hb, hF⟩ := F w mg fa _ Y G.T.g hmg
  exact lawG KX G.T.g G.T.b G.T.builtins G.T.nolimit hg hobj hints (Nat.le_trans hlen hn2) hr hF hb (law ns hlen)
end Sh
namespace L2
open PySem
/-- the law's one argument -/
theorem Fun.bindsA1 {K : PySem.W.Frag} {x qual p : Str} {st : Stmt} {f : Addr} {fd : FuncData} (F : L2.Fun K x qual st f fd)
    (h : ∀ (kV doc pm : Value) (an : Option Addr) (cdv ct : Value) (u : Value), bindArgs (PySem.W.fnOf x qual (defArgs st) (defBody st) (defScope st) .none kV doc pm an cdv ct) ⟨[u], []⟩ = pure [(p, u)]) (s : Shared) (u : Value) : BindsTo s fd ⟨[u], []⟩ [(p, u)] := by
  obtain ⟨oc, od, kV, doc, pm, an, cdv, ct, osl, rfl, lk, hcd⟩ := F.ex
  exact .of_eq (h kV doc pm an cdv ct u)
end L2
set_option Elab.async false
set_option linter.all false
set_option maxRecDepth 100000
set_option maxHeartbeats 4000000
namespace U
open PySem L2 Sh
def v_ANY : D := (.tup [(.str "any")])
def v_END : D := (.str "end")
def v_GOES_ON : D := (.str "")
def v_MOST_WORDS : D := (.int 64)
def v_OFF_STACK : D := (.str "sp")
def v_OUT : D := (.tup [(.str "back"), (.str ""), (.int 0)])
def v_REGISTERS : D := (.tup [(.str "p"), (.str "q"), (.str "r"), (.str "s"), (.str "x"), (.str "y")])
def v_RETURN : D := (.str "return")
def v_SCRATCH : D := (.tup [(.str "x"), (.str "y")])
def v_STACK : D := (.str "sp")
def v_WILD : D := (.str "wild")
def tab_FORMS : List (Str × D) := [("push", (.str "r")), ("pop", (.str "r")), ("grow", (.str "g")), ("shrink", (.str "g")), ("move", (.str "rr")), ("point", (.str "rn")), ("setsp", (.str "rn")), ("work", (.str "r")), ("store", (.str "bnr")), ("load", (.str "rbn")), ("call", (.str "c")), ("jump", (.str "i")), ("branch", (.str "i")), ("return", (.str ""))]
def b_q_form_of : SM := sRet (eKGet tab_FORMS (eVar 0))
def f_q_form_of : List D → Sto → Res D := fnM 1 1 b_q_form_of
def b_q_is_integer : SM := sRet (vAnd (eCallB gIsi (eCons (eVar 0) (eCons (eC (.ty "int")) (eNil)))) (vAnd (vNot (eCallB gIsi (eCons (eVar 0) (eCons (eC (.ty "bool")) (eNil))))) (eChain gLe gLe (eVar 1) (eVar 0) (eVar 2))))
def f_q_is_integer : List D → Sto → Res D := fnM 3 3 b_q_is_integer
def b_q_is_register : SM := sRet (vAnd (eCallB gIsi (eCons (eVar 0) (eCons (eC (.ty "str")) (eNil)))) (eOp gIn (eVar 0) (eC v_REGISTERS)))
def f_q_is_register : List D → Sto → Res D := fnM 1 1 b_q_is_register
def b_q_is_basis : SM := sRet (vAnd (eCallB gIsi (eCons (eVar 0) (eCons (eC (.ty "str")) (eNil)))) (vOr (eOp gEq (eVar 0) (eC v_STACK)) (eOp gIn (eVar 0) (eC v_REGISTERS))))
def f_q_is_basis : List D → Sto → Res D := fnM 1 1 b_q_is_basis
def v_LETTERS : D := (.str "abcdefghijklmnopqrstuvwxyz")
def v_MOST_LETTERS : D := (.int 8)
def b_q_is_name : SM := sSeq (sIf (bOr (bNot (asB (eCallB gIsi (eCons (eVar 0) (eCons (eC (.ty "str")) (eNil)))))) (bNot (asB (eChain gLe gLe (eC (.int 1)) (eCallB gLen (eCons (eVar 0) (eNil))) (eC v_MOST_LETTERS))))) (sRet (eC (.bl false))) (sNil)) (sRet (eCallB gAll (eCons (eLc [1] (eSrc (eVar 0)) (bVar 1) (bYes) (eOp gIn (eVar 1) (eC v_LETTERS))) (eNil))))
def f_q_is_name : List D → Sto → Res D := fnM 1 2 b_q_is_name
def b_q_part_fits : SM := sSeq (sIf (asB (eOp gEq (eVar 1) (eC (.str "r")))) (sRet (eCall f_q_is_register (eCons (eVar 0) (eNil)))) (sNil)) (sSeq (sIf (asB (eOp gEq (eVar 1) (eC (.str "b")))) (sRet (eCall f_q_is_basis (eCons (eVar 0) (eNil)))) (sNil)) (sSeq (sIf (asB (eOp gEq (eVar 1) (eC (.str "c")))) (sRet (eCall f_q_is_name (eCons (eVar 0) (eNil)))) (sNil)) (sSeq (sIf (asB (eOp gEq (eVar 1) (eC (.str "i")))) (sRet (eCall f_q_is_integer (eCons (eVar 0) (eCons (eC (.int 0)) (eCons (eOp gSub (eVar 2) (eC (.int 1))) (eNil)))))) (sNil)) (sRet (eCall f_q_is_integer (eCons (eVar 0) (eCons (eIf (asB (eOp gEq (eVar 1) (eC (.str "g")))) (eC (.int 1)) (eUn gNeg (eC v_MOST_WORDS))) (eCons (eC v_MOST_WORDS) (eNil)))))))))
def f_q_part_fits : List D → Sto → Res D := fnM 3 3 b_q_part_fits
def b_q_is_instruction : SM := sSeq (sIf (bOr (bNot (asB (eCallB gIsi (eCons (eVar 0) (eCons (eC (.ty "tuple")) (eNil)))))) (bOr (asB (eOp gEq (eCallB gLen (eCons (eVar 0) (eNil))) (eC (.int 0)))) (bNot (asB (eCallB gIsi (eCons (eOp gIdx (eVar 0) (eC (.int 0))) (eCons (eC (.ty "str")) (eNil)))))))) (sRet (eC (.bl false))) (sNil)) (sSeq (sAsg (eCall f_q_form_of (eCons (eOp gIdx (eVar 0) (eC (.int 0))) (eNil))) (gVar 2)) (sSeq (sIf (bOr (asB (eOp gIs (eVar 2) (eC .non))) (asB (eOp gNe (eCallB gLen (eCons (eVar 0) (eNil))) (eOp gAdd (eCallB gLen (eCons (eVar 2) (eNil))) (eC (.int 1)))))) (sRet (eC (.bl false))) (sNil)) (sRet (eCallB gAll (eCons (eLc [3, 4] (eZip (eCons (eCut (eVar 0) (asI (eC (.int 1))) (noI)) (eCons (eVar 2) (eNil)))) (bTup 2 (bMore (bVar 3) (bMore (bVar 4) (bNone)))) (bYes) (eCall f_q_part_fits (eCons (eVar 3) (eCons (eVar 4) (eCons (eVar 1) (eNil)))))) (eNil))))))
def f_q_is_instruction : List D → Sto → Res D := fnM 2 5 b_q_is_instruction
def v_MOST_CODE : D := (.int 60)
def b_q_need_code : SM := sSeq (sIf (bOr (bNot (asB (eCallB gIsi (eCons (eVar 0) (eCons (eC (.ty "tuple")) (eNil)))))) (bNot (asB (eChain gLe gLe (eC (.int 1)) (eCallB gLen (eCons (eVar 0) (eNil))) (eC v_MOST_CODE))))) ((fun _ _ => .bad)) (sNil)) (sSeq (sFor (eEnum (eCons (eVar 0) (eNil))) (gB (bTup 2 (bMore (bVar 1) (bMore (bVar 2) (bNone))))) (sIf (bNot (asB (eCall f_q_is_instruction (eCons (eVar 2) (eCons (eCallB gLen (eCons (eVar 0) (eNil))) (eNil)))))) ((fun _ _ => .bad)) (sNil))) (sRet (eVar 0)))
def f_q_need_code : List D → Sto → Res D := fnM 1 3 b_q_need_code
end U
set_option Elab.async false
set_option linter.all false
set_option maxRecDepth 100000
set_option maxHeartbeats 4000000
namespace U
open PySem L2 Sh
def b_q_Machine_told : SM := sSeq (sAsg (eCallB gTuple (eCons (eLc [3] (eSrc (eC v_REGISTERS)) (bVar 3) (bYes) (eOp gIdx (eFld 0 "held" (eVar 0)) (eVar 3))) (eNil))) (gVar 2)) (sRet (eTup (eCons (eVar 1) (eCons (eFld 0 "sp" (eVar 0)) (eCons (eVar 2) (eCons (eCallB gTupleF (eCons (eLc [4] (eSrc (eCallB gSorted (eCons (eFld 0 "words" (eVar 0)) (eNil)))) (bVar 4) (bYes) (eTup (eCons (eVar 4) (eCons (eOp gIdx (eFld 0 "words" (eVar 0)) (eVar 4)) (eNil))))) (eNil))) (eNil)))))))
def f_q_Machine_told : List D → Sto → Res D := fnM 2 5 b_q_Machine_told
def b_q_Machine___init__ : SM := sSeq (sFldM (eVar 1) 0 "number" (eVar 0)) (sSeq (sFldM (eVar 2) 0 "base" (eVar 0)) (sSeq (sFldM (eVar 3) 0 "sp" (eVar 0)) (sSeq (sFldM (eVar 4) 0 "held" (eVar 0)) (sFldM (eVar 5) 0 "words" (eVar 0)))))
def f_q_Machine___init__ : List D → Sto → Res D := fnM 6 6 b_q_Machine___init__
def b_q_first_values : SM := sRet (eDcN [0] (eSrc (eC v_REGISTERS)) (bVar 0) (bYes) (eVar 0) (eTup (eCons (eC (.str "first")) (eCons (eVar 0) (eNil)))))
def f_q_first_values : List D → Sto → Res D := fnM 0 1 b_q_first_values
def b_q_first_stop : SM := sRet (eMeth 0 "told" f_q_Machine_told (eMake 0 3 2 f_q_Machine___init__ (eCons (eC (.int 0)) (eCons (eC (.int 0)) (eCons (eC (.int 0)) (eNil)))) (eCons (eCall f_q_first_values (eNil)) (eCons (eDicN (ePCons (eC (.int 0)) (eC v_OUT) (ePNil))) (eNil)))) (eCons (eC (.int 0)) (eNil)))
def f_q_first_stop : List D → Sto → Res D := fnM 0 0 b_q_first_stop
def b_q_Machine_is_on : SM := sRet (eChain gLe gLe (eOp gSub (eFld 0 "base" (eVar 0)) (eC v_MOST_WORDS)) (eVar 1) (eFld 0 "base" (eVar 0)))
def f_q_Machine_is_on : List D → Sto → Res D := fnM 2 2 b_q_Machine_is_on
def b_q_Machine_move_sp : SM := sSeq (sIf (bNot (asB (eMeth 0 "is_on" f_q_Machine_is_on (eVar 0) (eCons (eVar 1) (eNil))))) (sRet (eC v_OFF_STACK)) (sNil)) (sSeq (sFldM (eVar 1) 0 "sp" (eVar 0)) (sRet (eC v_GOES_ON)))
def f_q_Machine_move_sp : List D → Sto → Res D := fnM 2 2 b_q_Machine_move_sp
def b_q_Machine_address : SM := sSeq (sIf (asB (eOp gEq (eVar 1) (eC v_STACK))) (sRet (eFld 0 "sp" (eVar 0))) (sNil)) (sSeq (sAsg (eOp gIdx (eFld 0 "held" (eVar 0)) (eVar 1)) (gVar 2)) (sRet (eIf (bAnd (asB (eOp gEq (eOp gIdx (eVar 2) (eC (.int 0))) (eC (.str "word")))) (asB (eOp gEq (eOp gIdx (eVar 2) (eC (.int 1))) (eFld 0 "number" (eVar 0))))) (eOp gIdx (eVar 2) (eC (.int 2))) (eC .non))))
def f_q_Machine_address : List D → Sto → Res D := fnM 2 3 b_q_Machine_address
def b_q_Machine_set_word : SM := sIf (asB (eOp gEq (eVar 2) (eC v_ANY))) (sExpr (ePop2 (eFld 0 "words" (eVar 0)) (eVar 1) (eC .non))) (sAsg (eVar 2) (gSubM (eFld 0 "words" (eVar 0)) (eVar 1)))
def f_q_Machine_set_word : List D → Sto → Res D := fnM 3 3 b_q_Machine_set_word
def b_q_Machine_do_stack : SM := sSeq (sPar 4 5 (eCons (eOp gIdx (eVar 1) (eC (.int 0))) (eCons (eOp gIdx (eVar 1) (eC (.int 1))) (eNil)))) (sSeq (sIf (asB (eOp gEq (eVar 4) (eC (.str "setsp")))) (sSeq (sAsg (eMeth 0 "address" f_q_Machine_address (eVar 0) (eCons (eVar 5) (eNil))) (gVar 2)) (sRet (eIf (asB (eOp gIs (eVar 2) (eC .non))) (eC v_WILD) (eMeth 0 "move_sp" f_q_Machine_move_sp (eVar 0) (eCons (eOp gAdd (eVar 2) (eOp gIdx (eVar 1) (eC (.int 2)))) (eNil)))))) (sNil)) (sSeq (sIf (asB (eOp gIn (eVar 4) (eTup (eCons (eC (.str "grow")) (eCons (eC (.str "shrink")) (eNil)))))) (sRet (eMeth 0 "move_sp" f_q_Machine_move_sp (eVar 0) (eCons (eIf (asB (eOp gEq (eVar 4) (eC (.str "shrink")))) (eOp gAdd (eFld 0 "sp" (eVar 0)) (eVar 5)) (eOp gSub (eFld 0 "sp" (eVar 0)) (eVar 5))) (eNil)))) (sNil)) (sSeq (sAsg (eFld 0 "sp" (eVar 0)) (gVar 2)) (sSeq (sAsg (eMeth 0 "move_sp" f_q_Machine_move_sp (eVar 0) (eCons (eIf (asB (eOp gEq (eVar 4) (eC (.str "push")))) (eOp gSub (eFld 0 "sp" (eVar 0)) (eC (.int 1))) (eOp gAdd (eFld 0 "sp" (eVar 0)) (eC (.int 1)))) (eNil))) (gVar 3)) (sSeq (sIf (bAnd (asB (eOp gEq (eVar 3) (eC v_GOES_ON))) (asB (eOp gEq (eVar 4) (eC (.str "push"))))) (sExpr (eMeth 0 "set_word" f_q_Machine_set_word (eVar 0) (eCons (eFld 0 "sp" (eVar 0)) (eCons (eOp gIdx (eFld 0 "held" (eVar 0)) (eVar 5)) (eNil))))) (sIf (asB (eOp gEq (eVar 3) (eC v_GOES_ON))) (sAsg (eGet2 (eFld 0 "words" (eVar 0)) (eVar 2) (eC v_ANY)) (gSubM (eFld 0 "held" (eVar 0)) (eVar 5))) (sNil))) (sRet (eVar 3)))))))
def f_q_Machine_do_stack : List D → Sto → Res D := fnM 2 6 b_q_Machine_do_stack
def b_q_Machine_do_memory : SM := sSeq (sAsg (eOp gEq (eOp gIdx (eVar 1) (eC (.int 0))) (eC (.str "store"))) (gVar 2)) (sSeq (sAsg (eIf (asB (eVar 2)) (eTup (eCons (eOp gIdx (eVar 1) (eC (.int 1))) (eCons (eOp gIdx (eVar 1) (eC (.int 2))) (eNil)))) (eTup (eCons (eOp gIdx (eVar 1) (eC (.int 2))) (eCons (eOp gIdx (eVar 1) (eC (.int 3))) (eNil))))) (gB (bTup 2 (bMore (bVar 4) (bMore (bVar 5) (bNone)))))) (sSeq (sAsg (eMeth 0 "address" f_q_Machine_address (eVar 0) (eCons (eVar 4) (eNil))) (gVar 3)) (sSeq (sIf (bOr (asB (eOp gIs (eVar 3) (eC .non))) (bNot (asB (eMeth 0 "is_on" f_q_Machine_is_on (eVar 0) (eCons (eOp gAdd (eVar 3) (eVar 5)) (eNil)))))) (sRet (eC v_WILD)) (sNil)) (sSeq (sIf (asB (eVar 2)) (sExpr (eMeth 0 "set_word" f_q_Machine_set_word (eVar 0) (eCons (eOp gAdd (eVar 3) (eVar 5)) (eCons (eOp gIdx (eFld 0 "held" (eVar 0)) (eOp gIdx (eVar 1) (eC (.int 3)))) (eNil))))) (sAsg (eGet2 (eFld 0 "words" (eVar 0)) (eOp gAdd (eVar 3) (eVar 5)) (eC v_ANY)) (gSubM (eFld 0 "held" (eVar 0)) (eOp gIdx (eVar 1) (eC (.int 1)))))) (sRet (eC v_GOES_ON))))))
def f_q_Machine_do_memory : List D → Sto → Res D := fnM 2 6 b_q_Machine_do_memory
def b_q_Machine_forget_below : SM := sFor (eSrc (eLock (eFld 0 "words" (eVar 0)) (eLc [2] (eKeys (eFld 0 "words" (eVar 0))) (bVar 2) (asB (eOp gLt (eVar 2) (eVar 1))) (eVar 2)))) (gB (bVar 2)) (sDel (eFld 0 "words" (eVar 0)) (eVar 2))
def f_q_Machine_forget_below : List D → Sto → Res D := fnM 2 3 b_q_Machine_forget_below
def b_q_Machine_forget : SM := sSeq (sFor (eSrc (eC v_SCRATCH)) (gB (bVar 1)) (sAsg (eC v_ANY) (gSubM (eFld 0 "held" (eVar 0)) (eVar 1)))) (sExpr (eMeth 0 "forget_below" f_q_Machine_forget_below (eVar 0) (eCons (eFld 0 "sp" (eVar 0)) (eNil))))
def f_q_Machine_forget : List D → Sto → Res D := fnM 1 2 b_q_Machine_forget
def b_q_Machine_do : SM := sSeq (sAsg (eOp gIdx (eVar 1) (eC (.int 0))) (gVar 2)) (sSeq (sIf (asB (eOp gIn (eVar 2) (eTup (eCons (eC (.str "push")) (eCons (eC (.str "pop")) (eCons (eC (.str "grow")) (eCons (eC (.str "shrink")) (eCons (eC (.str "setsp")) (eNil))))))))) (sRet (eMeth 0 "do_stack" f_q_Machine_do_stack (eVar 0) (eCons (eVar 1) (eNil)))) (sNil)) (sSeq (sIf (asB (eOp gIn (eVar 2) (eTup (eCons (eC (.str "store")) (eCons (eC (.str "load")) (eNil)))))) (sRet (eMeth 0 "do_memory" f_q_Machine_do_memory (eVar 0) (eCons (eVar 1) (eNil)))) (sNil)) (sSeq (sIf (asB (eOp gEq (eVar 2) (eC (.str "move")))) (sAsg (eOp gIdx (eFld 0 "held" (eVar 0)) (eOp gIdx (eVar 1) (eC (.int 2)))) (gSubM (eFld 0 "held" (eVar 0)) (eOp gIdx (eVar 1) (eC (.int 1))))) (sIf (asB (eOp gEq (eVar 2) (eC (.str "point")))) (sAsg (eTup (eCons (eC (.str "word")) (eCons (eFld 0 "number" (eVar 0)) (eCons (eOp gAdd (eFld 0 "sp" (eVar 0)) (eOp gIdx (eVar 1) (eC (.int 2)))) (eNil))))) (gSubM (eFld 0 "held" (eVar 0)) (eOp gIdx (eVar 1) (eC (.int 1))))) (sIf (asB (eOp gEq (eVar 2) (eC (.str "work")))) (sAsg (eC v_ANY) (gSubM (eFld 0 "held" (eVar 0)) (eOp gIdx (eVar 1) (eC (.int 1))))) (sIf (asB (eOp gEq (eVar 2) (eC (.str "call")))) (sExpr (eMeth 0 "forget" f_q_Machine_forget (eVar 0) (eNil))) (sNil))))) (sRet (eC v_GOES_ON)))))
def f_q_Machine_do : List D → Sto → Res D := fnM 2 3 b_q_Machine_do
def b_q_next_places : SM := sSeq (sIf (asB (eOp gEq (eOp gIdx (eVar 0) (eC (.int 0))) (eC (.str "jump")))) (sRet (eLst (eCons (eOp gIdx (eVar 0) (eC (.int 1))) (eNil)))) (sNil)) (sSeq (sIf (asB (eOp gEq (eOp gIdx (eVar 0) (eC (.int 0))) (eC (.str "branch")))) (sRet (eCallB gSortSet (eCons (eLst (eCons (eOp gIdx (eVar 0) (eC (.int 1))) (eCons (eOp gAdd (eVar 1) (eC (.int 1))) (eNil)))) (eNil)))) (sNil)) (sRet (eLst (eCons (eOp gAdd (eVar 1) (eC (.int 1))) (eNil)))))
def f_q_next_places : List D → Sto → Res D := fnM 2 2 b_q_next_places
def b_q_successors : SM := sSeq (sAsg (eVar 1) (gB (bTup 4 (bMore (bVar 6) (bMore (bVar 7) (bMore (bVar 8) (bMore (bVar 9) (bNone)))))))) (sSeq (sAsg (eOp gIdx (eVar 0) (eVar 6)) (gVar 2)) (sSeq (sAsg (eMake 0 3 2 f_q_Machine___init__ (eCons (eC (.int 0)) (eCons (eC (.int 0)) (eCons (eVar 7) (eNil)))) (eCons (eDictZ (eCons (eC v_REGISTERS) (eCons (eVar 8) (eNil)))) (eCons (eDictN (eCons (eVar 9) (eNil))) (eNil)))) (gVar 3)) (sSeq (sIf (asB (eOp gEq (eOp gIdx (eVar 2) (eC (.int 0))) (eC (.str "return")))) (sRet (eTup (eCons (eLst (eNil)) (eCons (eIf (bAnd (asB (eOp gEq (eVar 7) (eC (.int 0)))) (asB (eOp gEq (eGet2 (eFld 0 "words" (eVar 3)) (eC (.int 0)) (eC v_ANY)) (eC v_OUT)))) (eLst (eNil)) (eLst (eCons (eC v_RETURN) (eNil)))) (eNil))))) (sNil)) (sSeq (sAsg (eMeth 0 "do" f_q_Machine_do (eVar 3) (eCons (eVar 2) (eNil))) (gVar 4)) (sSeq (sIf (asB (eOp gNe (eVar 4) (eC v_GOES_ON))) (sRet (eTup (eCons (eLst (eNil)) (eCons (eLst (eCons (eVar 4) (eNil))) (eNil))))) (sNil)) (sSeq (sAsg (eCall f_q_next_places (eCons (eVar 2) (eCons (eVar 6) (eNil)))) (gVar 5)) (sRet (eTup (eCons (eLc [10] (eSrc (eVar 5)) (bVar 10) (asB (eOp gLt (eVar 10) (eCallB gLen (eCons (eVar 0) (eNil))))) (eMeth 0 "told" f_q_Machine_told (eVar 3) (eCons (eVar 10) (eNil)))) (eCons (eIf (asB (eOp gIn (eCallB gLen (eCons (eVar 0) (eNil))) (eVar 5))) (eLst (eCons (eC v_END) (eNil))) (eLst (eNil))) (eNil)))))))))))
def f_q_successors : List D → Sto → Res D := fnM 2 11 b_q_successors
def b_q_stop_at : SM := sSeq (sIf (bOr (bNot (asB (eCallB gIsi (eCons (eVar 1) (eCons (eC (.ty "tuple")) (eNil)))))) (asB (eOp gEq (eCallB gLen (eCons (eVar 1) (eNil))) (eC (.int 0))))) ((fun _ _ => .bad)) (sNil)) (sSeq (sIf (bNot (asB (eCall f_q_is_integer (eCons (eOp gIdx (eVar 1) (eC (.int 0))) (eCons (eC (.int 0)) (eCons (eC (.int 0)) (eNil))))))) ((fun _ _ => .bad)) (sNil)) (sSeq (sAsg (eCall f_q_first_stop (eNil)) (gVar 2)) (sSeq (sFor (eRng rng2 (eCons (eC (.int 1)) (eCons (eCallB gLen (eCons (eVar 1) (eNil))) (eNil)))) (gB (bVar 3)) (sSeq (sAsg (eLc [5] (eSrc (eOp gIdx (eCall f_q_successors (eCons (eVar 0) (eCons (eVar 2) (eNil)))) (eC (.int 0)))) (bVar 5) (asB (eOp gEq (eOp gIdx (eVar 5) (eC (.int 0))) (eOp gIdx (eVar 1) (eVar 3)))) (eVar 5)) (gVar 4)) (sSeq (sIf (bOr (asB (eOp gEq (eVar 4) (eLst (eNil)))) (bNot (asB (eCall f_q_is_integer (eCons (eOp gIdx (eVar 1) (eVar 3)) (eCons (eC (.int 0)) (eCons (eOp gSub (eCallB gLen (eCons (eVar 0) (eNil))) (eC (.int 1))) (eNil)))))))) ((fun _ _ => .bad)) (sNil)) (sAsg (eOp gIdx (eVar 4) (eC (.int 0))) (gVar 2))))) (sRet (eVar 2)))))
def f_q_stop_at : List D → Sto → Res D := fnM 2 6 b_q_stop_at
def b_q_run : SM := sRet (eCall f_q_stop_at (eCons (eCall f_q_need_code (eCons (eVar 0) (eNil))) (eCons (eVar 1) (eNil))))
def f_q_run : List D → Sto → Res D := fnM 2 2 b_q_run
end U
set_option Elab.async false
set_option linter.all false
set_option maxRecDepth 100000
set_option maxHeartbeats 4000000
namespace U
open PySem L2 Sh
def e_q_following_1 : EM D := eOp gIdx (eVar 2) (eC (.int 0))
def b_q_following : SM := sRet (eCallB gTuple (eCons (eLc [2] (eSrc (eOp gIdx (eCall f_q_successors (eCons (eVar 0) (eCons (eCall f_q_run (eCons (eVar 0) (eCons (eVar 1) (eNil)))) (eNil)))) (eC (.int 0)))) (bVar 2) (bYes) (e_q_following_1)) (eNil)))
def f_q_following : List D → Sto → Res D := fnM 2 3 b_q_following
def b_q_breaking : SM := sRet (eCallB gTuple (eCons (eCallB gSorted (eCons (eOp gIdx (eCall f_q_successors (eCons (eVar 0) (eCons (eCall f_q_run (eCons (eVar 0) (eCons (eVar 1) (eNil)))) (eNil)))) (eC (.int 1))) (eNil))) (eNil)))
def f_q_breaking : List D → Sto → Res D := fnM 2 2 b_q_breaking
end U
set_option Elab.async false
set_option linter.all false
set_option maxRecDepth 100000
set_option maxHeartbeats 4000000
namespace U
open PySem L2 Sh
def b_p_law_mixed : SM := sSeq (sAsg (eOp gMod (eCallB gInt (eCons (eVar 0) (eNil))) (eC (.int 2147483647))) (gVar 0)) (sRet (eOp gMod (eOp gMul (eOp gMod (eOp gAdd (eOp gAdd (eOp gMul (eVar 0) (eOp gAdd (eC (.int 48271)) (eOp gMul (eOp gMul (eC (.int 2)) (eVar 1)) (eVar 1)))) (eOp gMul (eC (.int 69621)) (eVar 1))) (eC (.int 11))) (eC (.int 2147483647))) (eC (.int 69621))) (eC (.int 2147483629))))
def f_p_law_mixed : List D → Sto → Res D := fnM 2 2 b_p_law_mixed
def b_p_law_begin : SM := sSeq (sAsg (eIf (asB (eOp gNe (eVar 0) (eLst (eNil)))) (eCallB gList (eCons (eVar 0) (eNil))) (eLst (eCons (eC (.int 0)) (eNil)))) (gVar 1)) (sRet (eDicN (ePCons (eC (.str "cells")) (eVar 1) (ePCons (eC (.str "lefts")) (eLcN [2] (eSrc (eVar 1)) (bVar 2) (bYes) (eIf (asB (eOp gGe (eVar 2) (eOp gPow (eC (.int 10)) (eC (.int 18))))) (eVar 2) (eC (.int 0)))) (ePCons (eC (.str "at")) (eC (.int 0)) (ePNil))))))
def f_p_law_begin : List D → Sto → Res D := fnM 1 3 b_p_law_begin
def b_p_law_draw : SM := sSeq (sAsg (eOp gIdx (eVar 0) (eC (.str "at"))) (gVar 2)) (sSeq (sAsg (eOp gAdd (eVar 2) (eC (.int 1))) (gSubM (eVar 0) (eC (.str "at")))) (sSeq (sAsg (eOp gMod (eCallB gInt (eCons (eVar 2) (eNil))) (eCallB gLen (eCons (eOp gIdx (eVar 0) (eC (.str "cells"))) (eNil)))) (gVar 3)) (sSeq (sAsg (eOp gIdx (eOp gIdx (eVar 0) (eC (.str "lefts"))) (eVar 3)) (gVar 4)) (sSeq (sIf (asB (eOp gGt (eVar 4) (eC (.int 0)))) (sSeq (sAsg (eOp gDiv (eVar 4) (eVar 1)) (gSubM (eOp gIdx (eVar 0) (eC (.str "lefts"))) (eVar 3))) (sRet (eOp gMod (eCallB gInt (eCons (eVar 4) (eNil))) (eVar 1)))) (sNil)) (sSeq (sAsg (eCall f_p_law_mixed (eCons (eCall f_p_law_mixed (eCons (eOp gIdx (eOp gIdx (eVar 0) (eC (.str "cells"))) (eVar 3)) (eCons (eVar 2) (eNil)))) (eCons (eOp gAdd (eC (.int 40)) (eVar 2)) (eNil)))) (gVar 5)) (sRet (eOp gMod (eOp gDiv (eCallB gInt (eCons (eOp gAdd (eOp gMul (eVar 5) (eC (.int 2147483647))) (eCall f_p_law_mixed (eCons (eVar 5) (eCons (eOp gAdd (eC (.int 7)) (eVar 2)) (eNil))))) (eNil))) (eC (.int 64))) (eVar 1))))))))
def f_p_law_draw : List D → Sto → Res D := fnM 2 6 b_p_law_draw
def b_p_law_of : SM := sRet (eOp gIdx (eVar 1) (eCall f_p_law_draw (eCons (eVar 0) (eCons (eCallB gLen (eCons (eVar 1) (eNil))) (eNil)))))
def f_p_law_of : List D → Sto → Res D := fnM 2 2 b_p_law_of
end U
set_option Elab.async false
set_option linter.all false
set_option maxRecDepth 100000
set_option maxHeartbeats 4000000
namespace U
open PySem L2 Sh
def b_p_law_rows_1 : SM := sSeq (sAsg (eLst (eCons (eTup (eCons (eLst (eCons (eTup (eCons (eC (.str "grow")) (eCons (eC (.int 64)) (eNil)))) (eCons (eTup (eCons (eC (.str "push")) (eCons (eVar 0) (eNil)))) (eNil)))) (eCons (eC (.str "sp")) (eNil)))) (eCons (eTup (eCons (eLst (eCons (eTup (eCons (eC (.str "grow")) (eCons (eC (.int 63)) (eNil)))) (eCons (eTup (eCons (eC (.str "push")) (eCons (eVar 0) (eNil)))) (eNil)))) (eCons (eC (.str "")) (eNil)))) (eNil)))) (gVar 3)) (sSeq (sAsg (eOp gAdd (eVar 3) (eLst (eCons (eTup (eCons (eLst (eCons (eTup (eCons (eC (.str "pop")) (eCons (eVar 0) (eNil)))) (eNil))) (eCons (eC (.str "sp")) (eNil)))) (eCons (eTup (eCons (eLst (eCons (eTup (eCons (eC (.str "push")) (eCons (eVar 1) (eNil)))) (eCons (eTup (eCons (eC (.str "pop")) (eCons (eVar 0) (eNil)))) (eNil)))) (eCons (eC (.str "")) (eNil)))) (eCons (eTup (eCons (eLst (eCons (eTup (eCons (eC (.str "shrink")) (eCons (eVar 2) (eNil)))) (eNil))) (eCons (eC (.str "sp")) (eNil)))) (eNil)))))) (gVar 3)) (sSeq (sAsg (eOp gAdd (eVar 3) (eLst (eCons (eTup (eCons (eLst (eCons (eTup (eCons (eC (.str "grow")) (eCons (eVar 2) (eNil)))) (eCons (eTup (eCons (eC (.str "shrink")) (eCons (eVar 2) (eNil)))) (eNil)))) (eCons (eC (.str "")) (eNil)))) (eCons (eTup (eCons (eLst (eCons (eTup (eCons (eC (.str "grow")) (eCons (eVar 2) (eNil)))) (eCons (eTup (eCons (eC (.str "shrink")) (eCons (eOp gAdd (eVar 2) (eC (.int 1))) (eNil)))) (eNil)))) (eCons (eC (.str "sp")) (eNil)))) (eNil))))) (gVar 3)) (sSeq (sAsg (eOp gAdd (eVar 3) (eLst (eCons (eTup (eCons (eLst (eCons (eTup (eCons (eC (.str "grow")) (eCons (eVar 2) (eNil)))) (eCons (eTup (eCons (eC (.str "grow")) (eCons (eOp gSub (eC (.int 64)) (eVar 2)) (eNil)))) (eNil)))) (eCons (eC (.str "")) (eNil)))) (eCons (eTup (eCons (eLst (eCons (eTup (eCons (eC (.str "grow")) (eCons (eVar 2) (eNil)))) (eCons (eTup (eCons (eC (.str "grow")) (eCons (eC (.int 64)) (eNil)))) (eNil)))) (eCons (eC (.str "sp")) (eNil)))) (eNil))))) (gVar 3)) (sSeq (sAsg (eOp gAdd (eVar 3) (eLst (eCons (eTup (eCons (eLst (eCons (eTup (eCons (eC (.str "store")) (eCons (eC (.str "sp")) (eCons (eUn gNeg (eC (.int 64))) (eCons (eVar 0) (eNil)))))) (eNil))) (eCons (eC (.str "")) (eNil)))) (eCons (eTup (eCons (eLst (eCons (eTup (eCons (eC (.str "grow")) (eCons (eC (.int 1)) (eNil)))) (eCons (eTup (eCons (eC (.str "store")) (eCons (eC (.str "sp")) (eCons (eUn gNeg (eC (.int 64))) (eCons (eVar 0) (eNil)))))) (eNil)))) (eCons (eC (.str "wild")) (eNil)))) (eNil))))) (gVar 3)) (sSeq (sAsg (eOp gAdd (eVar 3) (eLst (eCons (eTup (eCons (eLst (eCons (eTup (eCons (eC (.str "store")) (eCons (eC (.str "sp")) (eCons (eC (.int 1)) (eCons (eVar 0) (eNil)))))) (eNil))) (eCons (eC (.str "wild")) (eNil)))) (eCons (eTup (eCons (eLst (eCons (eTup (eCons (eC (.str "load")) (eCons (eVar 0) (eCons (eC (.str "sp")) (eCons (eC (.int 1)) (eNil)))))) (eNil))) (eCons (eC (.str "wild")) (eNil)))) (eNil))))) (gVar 3)) (sSeq (sAsg (eOp gAdd (eVar 3) (eLst (eCons (eTup (eCons (eLst (eCons (eTup (eCons (eC (.str "grow")) (eCons (eVar 2) (eNil)))) (eCons (eTup (eCons (eC (.str "load")) (eCons (eVar 0) (eCons (eC (.str "sp")) (eCons (eVar 2) (eNil)))))) (eNil)))) (eCons (eC (.str "")) (eNil)))) (eCons (eTup (eCons (eLst (eCons (eTup (eCons (eC (.str "grow")) (eCons (eVar 2) (eNil)))) (eCons (eTup (eCons (eC (.str "load")) (eCons (eVar 0) (eCons (eC (.str "sp")) (eCons (eOp gAdd (eVar 2) (eC (.int 1))) (eNil)))))) (eNil)))) (eCons (eC (.str "wild")) (eNil)))) (eNil))))) (gVar 3)) (sSeq (sAsg (eOp gAdd (eVar 3) (eLst (eCons (eTup (eCons (eLst (eCons (eTup (eCons (eC (.str "store")) (eCons (eVar 0) (eCons (eC (.int 0)) (eCons (eVar 1) (eNil)))))) (eNil))) (eCons (eC (.str "wild")) (eNil)))) (eCons (eTup (eCons (eLst (eCons (eTup (eCons (eC (.str "load")) (eCons (eVar 1) (eCons (eVar 0) (eCons (eC (.int 0)) (eNil)))))) (eNil))) (eCons (eC (.str "wild")) (eNil)))) (eCons (eTup (eCons (eLst (eCons (eTup (eCons (eC (.str "setsp")) (eCons (eVar 0) (eCons (eC (.int 0)) (eNil))))) (eNil))) (eCons (eC (.str "wild")) (eNil)))) (eNil)))))) (gVar 3)) (sSeq (sAsg (eOp gAdd (eVar 3) (eLst (eCons (eTup (eCons (eLst (eCons (eTup (eCons (eC (.str "point")) (eCons (eVar 0) (eCons (eVar 2) (eNil))))) (eCons (eTup (eCons (eC (.str "load")) (eCons (eVar 1) (eCons (eVar 0) (eCons (eOp gSub (eC (.int 0)) (eVar 2)) (eNil)))))) (eNil)))) (eCons (eC (.str "")) (eNil)))) (eCons (eTup (eCons (eLst (eCons (eTup (eCons (eC (.str "point")) (eCons (eVar 0) (eCons (eC (.int 0)) (eNil))))) (eCons (eTup (eCons (eC (.str "work")) (eCons (eVar 0) (eNil)))) (eNil)))) (eCons (eC (.str "")) (eNil)))) (eNil))))) (gVar 3)) (sSeq (sAsg (eOp gAdd (eVar 3) (eLst (eCons (eTup (eCons (eLst (eCons (eTup (eCons (eC (.str "point")) (eCons (eVar 0) (eCons (eVar 2) (eNil))))) (eCons (eTup (eCons (eC (.str "load")) (eCons (eVar 1) (eCons (eVar 0) (eCons (eOp gSub (eC (.int 1)) (eVar 2)) (eNil)))))) (eNil)))) (eCons (eC (.str "wild")) (eNil)))) (eNil)))) (gVar 3)) (sSeq (sAsg (eOp gAdd (eVar 3) (eLst (eCons (eTup (eCons (eLst (eCons (eTup (eCons (eC (.str "point")) (eCons (eVar 0) (eCons (eVar 2) (eNil))))) (eCons (eTup (eCons (eC (.str "setsp")) (eCons (eVar 0) (eCons (eOp gSub (eC (.int 1)) (eVar 2)) (eNil))))) (eNil)))) (eCons (eC (.str "sp")) (eNil)))) (eCons (eTup (eCons (eLst (eCons (eTup (eCons (eC (.str "point")) (eCons (eVar 0) (eCons (eVar 2) (eNil))))) (eCons (eTup (eCons (eC (.str "setsp")) (eCons (eVar 0) (eCons (eOp gSub (eC (.int 0)) (eVar 2)) (eNil))))) (eNil)))) (eCons (eC (.str "")) (eNil)))) (eNil))))) (gVar 3)) (sSeq (sAsg (eOp gAdd (eVar 3) (eLst (eCons (eTup (eCons (eLst (eCons (eTup (eCons (eC (.str "point")) (eCons (eVar 0) (eCons (eUn gNeg (eC (.int 64))) (eNil))))) (eCons (eTup (eCons (eC (.str "setsp")) (eCons (eVar 0) (eCons (eUn gNeg (eC (.int 1))) (eNil))))) (eNil)))) (eCons (eC (.str "sp")) (eNil)))) (eCons (eTup (eCons (eLst (eCons (eTup (eCons (eC (.str "point")) (eCons (eVar 0) (eCons (eUn gNeg (eC (.int 64))) (eNil))))) (eCons (eTup (eCons (eC (.str "setsp")) (eCons (eVar 0) (eCons (eC (.int 0)) (eNil))))) (eNil)))) (eCons (eC (.str "")) (eNil)))) (eNil))))) (gVar 3)) (sSeq (sAsg (eOp gAdd (eVar 3) (eLst (eCons (eTup (eCons (eLst (eCons (eTup (eCons (eC (.str "load")) (eCons (eVar 0) (eCons (eC (.str "sp")) (eCons (eC (.int 0)) (eNil)))))) (eCons (eTup (eCons (eC (.str "store")) (eCons (eVar 0) (eCons (eC (.int 0)) (eCons (eVar 1) (eNil)))))) (eNil)))) (eCons (eC (.str "wild")) (eNil)))) (eNil)))) (gVar 3)) (sSeq (sAsg (eOp gAdd (eVar 3) (eLst (eCons (eTup (eCons (eLst (eCons (eTup (eCons (eC (.str "point")) (eCons (eVar 0) (eCons (eC (.int 0)) (eNil))))) (eCons (eTup (eCons (eC (.str "push")) (eCons (eVar 0) (eNil)))) (eCons (eTup (eCons (eC (.str "pop")) (eCons (eVar 1) (eNil)))) (eCons (eTup (eCons (eC (.str "store")) (eCons (eVar 1) (eCons (eUn gNeg (eC (.int 3))) (eCons (eVar 0) (eNil)))))) (eNil)))))) (eCons (eC (.str "")) (eNil)))) (eNil)))) (gVar 3)) (sRet (eVar 3)))))))))))))))
def f_p_law_rows_1 : List D → Sto → Res D := fnM 3 4 b_p_law_rows_1
def b_p_law_ends : SM := sSeq (sAsg (eLst (eCons (eTup (eCons (eC (.str "load")) (eCons (eVar 0) (eCons (eC (.str "sp")) (eCons (eC (.int 0)) (eNil)))))) (eCons (eTup (eCons (eC (.str "push")) (eCons (eVar 0) (eNil)))) (eNil)))) (gVar 2)) (sSeq (sAsg (eLstN (eCons (eTup (eCons (eLst (eCons (eTup (eCons (eC (.str "return")) (eNil))) (eNil))) (eCons (eTup (eCons (eC (.int 0)) (eNil))) (eCons (eTup (eNil)) (eCons (eTup (eNil)) (eNil)))))) (eCons (eTup (eCons (eLst (eCons (eTup (eCons (eC (.str "push")) (eCons (eVar 0) (eNil)))) (eCons (eTup (eCons (eC (.str "return")) (eNil))) (eNil)))) (eCons (eTup (eCons (eC (.int 0)) (eCons (eC (.int 1)) (eNil)))) (eCons (eTup (eNil)) (eCons (eTup (eCons (eC (.str "return")) (eNil))) (eNil)))))) (eNil)))) (gVar 3)) (sSeq (sExpr (eApp (eVar 3) (eTup (eCons (eLst (eCons (eTup (eCons (eC (.str "store")) (eCons (eC (.str "sp")) (eCons (eC (.int 0)) (eCons (eVar 0) (eNil)))))) (eCons (eTup (eCons (eC (.str "return")) (eNil))) (eNil)))) (eCons (eTup (eCons (eC (.int 0)) (eCons (eC (.int 1)) (eNil)))) (eCons (eTup (eNil)) (eCons (eTup (eCons (eC (.str "return")) (eNil))) (eNil)))))))) (sSeq (sExpr (eApp (eVar 3) (eTup (eCons (eOp gAdd (eVar 2) (eLst (eCons (eTup (eCons (eC (.str "pop")) (eCons (eVar 0) (eNil)))) (eCons (eTup (eCons (eC (.str "store")) (eCons (eC (.str "sp")) (eCons (eC (.int 0)) (eCons (eVar 0) (eNil)))))) (eCons (eTup (eCons (eC (.str "return")) (eNil))) (eNil)))))) (eCons (eTup (eCons (eC (.int 0)) (eCons (eC (.int 1)) (eCons (eC (.int 2)) (eCons (eC (.int 3)) (eCons (eC (.int 4)) (eNil))))))) (eCons (eTup (eNil)) (eCons (eTup (eNil)) (eNil)))))))) (sSeq (sExpr (eApp (eVar 3) (eTup (eCons (eLst (eCons (eTup (eCons (eC (.str "grow")) (eCons (eVar 1) (eNil)))) (eCons (eTup (eCons (eC (.str "shrink")) (eCons (eVar 1) (eNil)))) (eCons (eTup (eCons (eC (.str "return")) (eNil))) (eNil))))) (eCons (eTup (eCons (eC (.int 0)) (eCons (eC (.int 1)) (eCons (eC (.int 2)) (eNil))))) (eCons (eTup (eNil)) (eCons (eTup (eNil)) (eNil)))))))) (sSeq (sExpr (eApp (eVar 3) (eTup (eCons (eLst (eCons (eTup (eCons (eC (.str "work")) (eCons (eVar 0) (eNil)))) (eNil))) (eCons (eTup (eCons (eC (.int 0)) (eNil))) (eCons (eTup (eNil)) (eCons (eTup (eCons (eC (.str "end")) (eNil))) (eNil)))))))) (sSeq (sExpr (eApp (eVar 3) (eTup (eCons (eLst (eCons (eTup (eCons (eC (.str "call")) (eCons (eC (.str "f")) (eNil)))) (eNil))) (eCons (eTup (eCons (eC (.int 0)) (eNil))) (eCons (eTup (eNil)) (eCons (eTup (eCons (eC (.str "end")) (eNil))) (eNil)))))))) (sSeq (sExpr (eApp (eVar 3) (eTup (eCons (eLst (eCons (eTup (eCons (eC (.str "branch")) (eCons (eC (.int 0)) (eNil)))) (eNil))) (eCons (eTup (eCons (eC (.int 0)) (eCons (eC (.int 0)) (eNil)))) (eCons (eTup (eCons (eC (.int 0)) (eNil))) (eCons (eTup (eCons (eC (.str "end")) (eNil))) (eNil)))))))) (sSeq (sExpr (eApp (eVar 3) (eTup (eCons (eLst (eCons (eTup (eCons (eC (.str "jump")) (eCons (eC (.int 0)) (eNil)))) (eNil))) (eCons (eTup (eCons (eC (.int 0)) (eCons (eC (.int 0)) (eCons (eC (.int 0)) (eNil))))) (eCons (eTup (eCons (eC (.int 0)) (eNil))) (eCons (eTup (eNil)) (eNil)))))))) (sSeq (sExpr (eApp (eVar 3) (eTup (eCons (eLst (eCons (eTup (eCons (eC (.str "branch")) (eCons (eC (.int 1)) (eNil)))) (eCons (eTup (eCons (eC (.str "branch")) (eCons (eC (.int 0)) (eNil)))) (eNil)))) (eCons (eTup (eCons (eC (.int 0)) (eCons (eC (.int 1)) (eNil)))) (eCons (eTup (eCons (eC (.int 0)) (eNil))) (eCons (eTup (eCons (eC (.str "end")) (eNil))) (eNil)))))))) (sRet (eOp gAdd (eVar 3) (eLst (eCons (eTup (eCons (eLst (eCons (eTup (eCons (eC (.str "branch")) (eCons (eC (.int 2)) (eNil)))) (eCons (eTup (eCons (eC (.str "jump")) (eCons (eC (.int 0)) (eNil)))) (eCons (eTup (eCons (eC (.str "return")) (eNil))) (eNil))))) (eCons (eTup (eCons (eC (.int 0)) (eNil))) (eCons (eTup (eCons (eC (.int 1)) (eCons (eC (.int 2)) (eNil)))) (eCons (eTup (eNil)) (eNil)))))) (eNil))))))))))))))
def f_p_law_ends : List D → Sto → Res D := fnM 2 4 b_p_law_ends
def t_q_law_1_1 : EM Bool := asB (eOp gNe (eVar 13) (eVar 4))
def e_q_law_1_2 : EM D := eVar 13
def l_q_law_1_3 : SM := sSeq (sPar 12 9 (eCons (eCallB gTuple (eCons (eOp gAdd (eVar 6) (eLst (eCons (eTup (eCons (eC (.str "return")) (eNil))) (eNil)))) (eNil))) (eCons (eTupR (eCallB gLen (eCons (eVar 6) (eNil)))) (eNil)))) (sSeq (sAsg (eIf (asB (eOp gEq (eVar 7) (eC (.str "")))) (eLst (eCons (eTup (eCons (eCallB gLen (eCons (eVar 6) (eNil))) (eNil))) (eCons (eTup (eNil)) (eNil)))) (eLst (eCons (eTup (eNil)) (eCons (eTup (eCons (eVar 7) (eNil))) (eNil))))) (gVar 8)) (sIf (asB (eOp gNe (eCallB gRepr (eCons (eLst (eCons (eCall f_q_following (eCons (eVar 12) (eCons (eVar 9) (eNil)))) (eCons (eCall f_q_breaking (eCons (eVar 12) (eCons (eVar 9) (eNil)))) (eNil)))) (eNil))) (eCallB gRepr (eCons (eVar 8) (eNil))))) (sRet (eC (.bl false))) (sNil)))
def l_q_law_1_4 : SM := sIf (asB (eOp gNe (eCallB gRepr (eCons (eLst (eCons (eCall f_q_following (eCons (eCallB gTuple (eCons (eVar 6) (eNil))) (eCons (eVar 9) (eNil)))) (eCons (eCall f_q_breaking (eCons (eCallB gTuple (eCons (eVar 6) (eNil))) (eCons (eVar 9) (eNil)))) (eNil)))) (eNil))) (eCallB gRepr (eCons (eLst (eCons (eVar 10) (eCons (eVar 11) (eNil)))) (eNil))))) (sRet (eC (.bl false))) (sNil)
def l_q_law_1_5 : SM := sSeq (sAsg (eTup (eCons (eCall f_p_law_of (eCons (eVar 1) (eCons (eC (.str "pqrsxy")) (eNil)))) (eCons (eOp gAdd (eC (.int 1)) (eCall f_p_law_draw (eCons (eVar 1) (eCons (eC (.int 62)) (eNil))))) (eNil)))) (gB (bTup 2 (bMore (bVar 4) (bMore (bVar 5) (bNone)))))) (sSeq (sAsg (eCall f_p_law_of (eCons (eVar 1) (eCons (eLc [13] (eSrc (eC (.str "pqrsxy"))) (bVar 13) (t_q_law_1_1) (e_q_law_1_2)) (eNil)))) (gVar 3)) (sSeq (sFor (eSrc (eCall f_p_law_rows_1 (eCons (eVar 4) (eCons (eVar 3) (eCons (eVar 5) (eNil)))))) (gB (bTup 2 (bMore (bVar 6) (bMore (bVar 7) (bNone))))) (l_q_law_1_3)) (sFor (eSrc (eCall f_p_law_ends (eCons (eVar 4) (eCons (eVar 5) (eNil))))) (gB (bTup 4 (bMore (bVar 6) (bMore (bVar 9) (bMore (bVar 10) (bMore (bVar 11) (bNone))))))) (l_q_law_1_4))))
def b_q_law_1 : SM := sSeq (sAsg (eCall f_p_law_begin (eCons (eVar 0) (eNil))) (gVar 1)) (sSeq (sFor (eRng rng1 (eCons (eOp gAdd (eC (.int 2)) (eCallB gMin (eCons (eC (.int 3)) (eCons (eCallB gLen (eCons (eVar 0) (eNil))) (eNil))))) (eNil))) (gB (bVar 2)) (l_q_law_1_5)) (sRet (eC (.bl true))))
def f_q_law_1 : List D → Sto → Res D := fnM 1 14 b_q_law_1
end U
set_option Elab.async false
set_option linter.all false
set_option maxRecDepth 100000
set_option maxHeartbeats 4000000
namespace K08
open PySem PySem.Spec PyProof.Rows L2 Sh U
def topS (i : Nat) : Stmt := PySem.Challenge.pw_unwindrows_k08_breaks_by_hand.main.body.getD i (.Pass ⟨0, 0, 0, 0⟩)
def inS (i j : Nat) : Stmt := match topS i with
  | .ClassDef _ _ _ b _ _ _ _ _ _ _ => b.getD j (.Pass ⟨0, 0, 0, 0⟩)
  | s => s
@[reducible] def kk (K : PySem.W.Frag) : Cn := ⟨K, fun c => match c with
  | 0 => He.ga K "Machine"
  | _ => He.ga K "law"⟩
abbrev st_p_law_begin : Stmt := topS 40
theorem sc_p_law_begin : FnScope ["script", "cells", "cell"] ["script"] (defScope st_p_law_begin) := ⟨rfl, rfl, rfl, by decide +kernel, rfl, by decide +kernel, by decide +kernel⟩
abbrev st_p_law_mixed : Stmt := topS 39
theorem sc_p_law_mixed : FnScope ["cell", "k"] ["cell", "k"] (defScope st_p_law_mixed) := ⟨rfl, rfl, rfl, by decide +kernel, rfl, by decide +kernel, by decide +kernel⟩
abbrev st_p_law_draw : Stmt := topS 41
theorem sc_p_law_draw : FnScope ["state", "many", "at", "place", "left", "number"] ["state", "many"] (defScope st_p_law_draw) := ⟨rfl, rfl, rfl, by decide +kernel, rfl, by decide +kernel, by decide +kernel⟩
abbrev st_p_law_of : Stmt := topS 42
theorem sc_p_law_of : FnScope ["state", "some"] ["state", "some"] (defScope st_p_law_of) := ⟨rfl, rfl, rfl, by decide +kernel, rfl, by decide +kernel, by decide +kernel⟩
abbrev st_p_law_rows_1 : Stmt := topS 43
theorem sc_p_law_rows_1 : FnScope ["one", "two", "n", "rows"] ["one", "two", "n"] (defScope st_p_law_rows_1) := ⟨rfl, rfl, rfl, by decide +kernel, rfl, by decide +kernel, by decide +kernel⟩
abbrev st_p_law_ends : Stmt := topS 44
theorem sc_p_law_ends : FnScope ["one", "n", "back", "rows"] ["one", "n"] (defScope st_p_law_ends) := ⟨rfl, rfl, rfl, by decide +kernel, rfl, by decide +kernel, by decide +kernel⟩
abbrev st_q_Machine___init__ : Stmt := inS 29 0
theorem sc_q_Machine___init__ : FnScope ["self", "number", "base", "sp", "held", "words"] ["self", "number", "base", "sp", "held", "words"] (defScope st_q_Machine___init__) := ⟨rfl, rfl, rfl, by decide +kernel, rfl, by decide +kernel, by decide +kernel⟩
abbrev st_q_Machine_is_on : Stmt := inS 29 5
theorem sc_q_Machine_is_on : FnScope ["self", "at"] ["self", "at"] (defScope st_q_Machine_is_on) := ⟨rfl, rfl, rfl, by decide +kernel, rfl, by decide +kernel, by decide +kernel⟩
abbrev st_q_Machine_move_sp : Stmt := inS 29 6
theorem sc_q_Machine_move_sp : FnScope ["self", "sp"] ["self", "sp"] (defScope st_q_Machine_move_sp) := ⟨rfl, rfl, rfl, by decide +kernel, rfl, by decide +kernel, by decide +kernel⟩
abbrev st_q_Machine_address : Stmt := inS 29 4
theorem sc_q_Machine_address : FnScope ["self", "basis", "value"] ["self", "basis"] (defScope st_q_Machine_address) := ⟨rfl, rfl, rfl, by decide +kernel, rfl, by decide +kernel, by decide +kernel⟩
abbrev st_q_Machine_set_word : Stmt := inS 29 1
theorem sc_q_Machine_set_word : FnScope ["self", "at", "value"] ["self", "at", "value"] (defScope st_q_Machine_set_word) := ⟨rfl, rfl, rfl, by decide +kernel, rfl, by decide +kernel, by decide +kernel⟩
abbrev st_q_Machine_do_stack : Stmt := inS 29 7
theorem sc_q_Machine_do_stack : FnScope ["self", "instruction", "at", "broken", "word", "part"] ["self", "instruction"] (defScope st_q_Machine_do_stack) := ⟨rfl, rfl, rfl, by decide +kernel, rfl, by decide +kernel, by decide +kernel⟩
abbrev st_q_Machine_do_memory : Stmt := inS 29 8
theorem sc_q_Machine_do_memory : FnScope ["self", "instruction", "is_store", "at", "basis", "distance"] ["self", "instruction"] (defScope st_q_Machine_do_memory) := ⟨rfl, rfl, rfl, by decide +kernel, rfl, by decide +kernel, by decide +kernel⟩
abbrev st_q_Machine_forget_below : Stmt := inS 29 3
theorem sc_q_Machine_forget_below : FnScope ["self", "bound", "at"] ["self", "bound"] (defScope st_q_Machine_forget_below) := ⟨rfl, rfl, rfl, by decide +kernel, rfl, by decide +kernel, by decide +kernel⟩
abbrev st_q_Machine_forget : Stmt := inS 29 2
theorem sc_q_Machine_forget : FnScope ["self", "reg"] ["self"] (defScope st_q_Machine_forget) := ⟨rfl, rfl, rfl, by decide +kernel, rfl, by decide +kernel, by decide +kernel⟩
abbrev st_q_Machine_do : Stmt := inS 29 9
theorem sc_q_Machine_do : FnScope ["self", "instruction", "word"] ["self", "instruction"] (defScope st_q_Machine_do) := ⟨rfl, rfl, rfl, by decide +kernel, rfl, by decide +kernel, by decide +kernel⟩
abbrev st_q_next_places : Stmt := topS 32
theorem sc_q_next_places : FnScope ["instruction", "place"] ["instruction", "place"] (defScope st_q_next_places) := ⟨rfl, rfl, rfl, by decide +kernel, rfl, by decide +kernel, by decide +kernel⟩
abbrev st_q_Machine_told : Stmt := inS 29 10
theorem sc_q_Machine_told : FnScope ["self", "place", "values", "reg", "at"] ["self", "place"] (defScope st_q_Machine_told) := ⟨rfl, rfl, rfl, by decide +kernel, rfl, by decide +kernel, by decide +kernel⟩
abbrev st_q_successors : Stmt := topS 33
theorem sc_q_successors : FnScope ["code", "stop", "instruction", "machine", "broken", "places", "place", "sp", "values", "words", "at"] ["code", "stop"] (defScope st_q_successors) := ⟨rfl, rfl, rfl, by decide +kernel, rfl, by decide +kernel, by decide +kernel⟩
abbrev st_q_first_values : Stmt := topS 30
theorem sc_q_first_values : FnScope ["reg"] [] (defScope st_q_first_values) := ⟨rfl, rfl, rfl, by decide +kernel, rfl, by decide +kernel, by decide +kernel⟩
abbrev st_q_first_stop : Stmt := topS 31
theorem sc_q_first_stop : FnScope [] [] (defScope st_q_first_stop) := ⟨rfl, rfl, rfl, by decide +kernel, rfl, by decide +kernel, by decide +kernel⟩
abbrev st_q_is_integer : Stmt := topS 13
theorem sc_q_is_integer : FnScope ["thing", "least", "most"] ["thing", "least", "most"] (defScope st_q_is_integer) := ⟨rfl, rfl, rfl, by decide +kernel, rfl, by decide +kernel, by decide +kernel⟩
abbrev st_q_stop_at : Stmt := topS 34
theorem sc_q_stop_at : FnScope ["code", "path", "stop", "index", "found", "other"] ["code", "path"] (defScope st_q_stop_at) := ⟨rfl, rfl, rfl, by decide +kernel, rfl, by decide +kernel, by decide +kernel⟩
abbrev st_q_form_of : Stmt := topS 12
theorem sc_q_form_of : FnScope ["word"] ["word"] (defScope st_q_form_of) := ⟨rfl, rfl, rfl, by decide +kernel, rfl, by decide +kernel, by decide +kernel⟩
abbrev st_q_is_register : Stmt := topS 14
theorem sc_q_is_register : FnScope ["thing"] ["thing"] (defScope st_q_is_register) := ⟨rfl, rfl, rfl, by decide +kernel, rfl, by decide +kernel, by decide +kernel⟩
abbrev st_q_is_basis : Stmt := topS 15
theorem sc_q_is_basis : FnScope ["thing"] ["thing"] (defScope st_q_is_basis) := ⟨rfl, rfl, rfl, by decide +kernel, rfl, by decide +kernel, by decide +kernel⟩
abbrev st_q_is_name : Stmt := topS 16
theorem sc_q_is_name : FnScope ["thing", "letter"] ["thing"] (defScope st_q_is_name) := ⟨rfl, rfl, rfl, by decide +kernel, rfl, by decide +kernel, by decide +kernel⟩
abbrev st_q_part_fits : Stmt := topS 17
theorem sc_q_part_fits : FnScope ["part", "sort", "size"] ["part", "sort", "size"] (defScope st_q_part_fits) := ⟨rfl, rfl, rfl, by decide +kernel, rfl, by decide +kernel, by decide +kernel⟩
abbrev st_q_is_instruction : Stmt := topS 18
theorem sc_q_is_instruction : FnScope ["thing", "size", "form", "part", "sort"] ["thing", "size"] (defScope st_q_is_instruction) := ⟨rfl, rfl, rfl, by decide +kernel, rfl, by decide +kernel, by decide +kernel⟩
abbrev st_q_need_code : Stmt := topS 19
theorem sc_q_need_code : FnScope ["thing", "at", "instruction"] ["thing"] (defScope st_q_need_code) := ⟨rfl, rfl, rfl, by decide +kernel, rfl, by decide +kernel, by decide +kernel⟩
abbrev st_q_run : Stmt := topS 35
theorem sc_q_run : FnScope ["code", "path"] ["code", "path"] (defScope st_q_run) := ⟨rfl, rfl, rfl, by decide +kernel, rfl, by decide +kernel, by decide +kernel⟩
abbrev st_q_following : Stmt := topS 36
theorem sc_q_following : FnScope ["code", "path", "stop"] ["code", "path"] (defScope st_q_following) := ⟨rfl, rfl, rfl, by decide +kernel, rfl, by decide +kernel, by decide +kernel⟩
abbrev st_q_breaking : Stmt := topS 37
theorem sc_q_breaking : FnScope ["code", "path"] ["code", "path"] (defScope st_q_breaking) := ⟨rfl, rfl, rfl, by decide +kernel, rfl, by decide +kernel, by decide +kernel⟩
abbrev st_q_law_1 : Stmt := topS 45
theorem sc_q_law_1 : FnScope ["script", "state", "turn", "two", "one", "n", "some", "word", "due", "path", "places", "words", "code", "other"] ["script"] (defScope st_q_law_1) := ⟨rfl, rfl, rfl, by decide +kernel, rfl, by decide +kernel, by decide +kernel⟩
structure Tx (w : World) (K : PySem.W.Frag) (mg : Str → Option Value) (FD : Nat → FuncData) : Prop where
  b_all : mg "all" = none
  b_bool : mg "bool" = none
  b_dict : mg "dict" = none
  b_enumerate : mg "enumerate" = none
  b_int : mg "int" = none
  b_isinstance : mg "isinstance" = none
  b_len : mg "len" = none
  b_list : mg "list" = none
  b_min : mg "min" = none
  b_range : mg "range" = none
  b_repr : mg "repr" = none
  b_set : mg "set" = none
  b_sorted : mg "sorted" = none
  b_str : mg "str" = none
  b_tuple : mg "tuple" = none
  b_zip : mg "zip" = none
  c_ANY : GCon (kk K) mg "ANY" v_ANY
  c_END : GCon (kk K) mg "END" v_END
  c_GOES_ON : GCon (kk K) mg "GOES_ON" v_GOES_ON
  c_LETTERS : GCon (kk K) mg "LETTERS" v_LETTERS
  c_MOST_CODE : GCon (kk K) mg "MOST_CODE" v_MOST_CODE
  c_MOST_LETTERS : GCon (kk K) mg "MOST_LETTERS" v_MOST_LETTERS
  c_MOST_WORDS : GCon (kk K) mg "MOST_WORDS" v_MOST_WORDS
  c_OFF_STACK : GCon (kk K) mg "OFF_STACK" v_OFF_STACK
  c_OUT : GCon (kk K) mg "OUT" v_OUT
  c_REGISTERS : GCon (kk K) mg "REGISTERS" v_REGISTERS
  c_RETURN : GCon (kk K) mg "RETURN" v_RETURN
  c_SCRATCH : GCon (kk K) mg "SCRATCH" v_SCRATCH
  c_STACK : GCon (kk K) mg "STACK" v_STACK
  c_WILD : GCon (kk K) mg "WILD" v_WILD
  m_FORMS : mg "FORMS" = some (.ref (He.ga K "FORMS"))
  tab_FORMS : KTab (kk K) w (He.ga K "FORMS") tab_FORMS
  cls_Machine : Cls K (He.ga K "Machine")
  mk_Machine : Mk K (He.ga K "Machine") (He.fAd K ("Machine", some "__init__"))
  g_Machine : mg "Machine" = some (.ref (He.ga K "Machine"))
  na_Machine_base : NoAttr K (He.ga K "Machine") "base"
  na_Machine_held : NoAttr K (He.ga K "Machine") "held"
  na_Machine_number : NoAttr K (He.ga K "Machine") "number"
  na_Machine_sp : NoAttr K (He.ga K "Machine") "sp"
  na_Machine_words : NoAttr K (He.ga K "Machine") "words"
  F_p_law_begin : L2.Fun K "_law_begin" "_law_begin" st_p_law_begin (He.fAd K ("_law_begin", none)) (FD 0)
  B_p_law_begin : Binds K (FD 0) ["script"] []
  m_p_law_begin : mg "_law_begin" = some (.ref (He.fAd K ("_law_begin", none)))
  F_p_law_mixed : L2.Fun K "_law_mixed" "_law_mixed" st_p_law_mixed (He.fAd K ("_law_mixed", none)) (FD 1)
  B_p_law_mixed : Binds K (FD 1) ["cell", "k"] []
  m_p_law_mixed : mg "_law_mixed" = some (.ref (He.fAd K ("_law_mixed", none)))
  F_p_law_draw : L2.Fun K "_law_draw" "_law_draw" st_p_law_draw (He.fAd K ("_law_draw", none)) (FD 2)
  B_p_law_draw : Binds K (FD 2) ["state", "many"] []
  m_p_law_draw : mg "_law_draw" = some (.ref (He.fAd K ("_law_draw", none)))
  F_p_law_of : L2.Fun K "_law_of" "_law_of" st_p_law_of (He.fAd K ("_law_of", none)) (FD 3)
  B_p_law_of : Binds K (FD 3) ["state", "some"] []
  m_p_law_of : mg "_law_of" = some (.ref (He.fAd K ("_law_of", none)))
  F_p_law_rows_1 : L2.Fun K "_law_rows" "_law_rows" st_p_law_rows_1 (He.fAd K ("_law_rows", none)) (FD 4)
  B_p_law_rows_1 : Binds K (FD 4) ["one", "two", "n"] []
  m_p_law_rows_1 : mg "_law_rows" = some (.ref (He.fAd K ("_law_rows", none)))
  F_p_law_ends : L2.Fun K "_law_ends" "_law_ends" st_p_law_ends (He.fAd K ("_law_ends", none)) (FD 5)
  B_p_law_ends : Binds K (FD 5) ["one", "n"] []
  m_p_law_ends : mg "_law_ends" = some (.ref (He.fAd K ("_law_ends", none)))
  F_q_Machine___init__ : L2.Fun K "__init__" "Machine.__init__" st_q_Machine___init__ (He.fAd K ("Machine", some "__init__")) (FD 6)
  B_q_Machine___init__ : KBn K (FD 6) ["self", "number", "base", "sp", "held", "words"] 4 ["held", "words"] (fun us ws => us ++ ws) (fun us ws => us ++ ws)
  F_q_Machine_is_on : L2.Fun K "is_on" "Machine.is_on" st_q_Machine_is_on (He.fAd K ("Machine", some "is_on")) (FD 7)
  B_q_Machine_is_on : Binds K (FD 7) ["self", "at"] []
  me_q_Machine_is_on : Meth K (He.ga K "Machine") "is_on" (He.fAd K ("Machine", some "is_on"))
  F_q_Machine_move_sp : L2.Fun K "move_sp" "Machine.move_sp" st_q_Machine_move_sp (He.fAd K ("Machine", some "move_sp")) (FD 8)
  B_q_Machine_move_sp : Binds K (FD 8) ["self", "sp"] []
  me_q_Machine_move_sp : Meth K (He.ga K "Machine") "move_sp" (He.fAd K ("Machine", some "move_sp"))
  F_q_Machine_address : L2.Fun K "address" "Machine.address" st_q_Machine_address (He.fAd K ("Machine", some "address")) (FD 9)
  B_q_Machine_address : Binds K (FD 9) ["self", "basis"] []
  me_q_Machine_address : Meth K (He.ga K "Machine") "address" (He.fAd K ("Machine", some "address"))
  F_q_Machine_set_word : L2.Fun K "set_word" "Machine.set_word" st_q_Machine_set_word (He.fAd K ("Machine", some "set_word")) (FD 10)
  B_q_Machine_set_word : Binds K (FD 10) ["self", "at", "value"] []
  me_q_Machine_set_word : Meth K (He.ga K "Machine") "set_word" (He.fAd K ("Machine", some "set_word"))
  F_q_Machine_do_stack : L2.Fun K "do_stack" "Machine.do_stack" st_q_Machine_do_stack (He.fAd K ("Machine", some "do_stack")) (FD 11)
  B_q_Machine_do_stack : Binds K (FD 11) ["self", "instruction"] []
  me_q_Machine_do_stack : Meth K (He.ga K "Machine") "do_stack" (He.fAd K ("Machine", some "do_stack"))
  F_q_Machine_do_memory : L2.Fun K "do_memory" "Machine.do_memory" st_q_Machine_do_memory (He.fAd K ("Machine", some "do_memory")) (FD 12)
  B_q_Machine_do_memory : Binds K (FD 12) ["self", "instruction"] []
  me_q_Machine_do_memory : Meth K (He.ga K "Machine") "do_memory" (He.fAd K ("Machine", some "do_memory"))
  F_q_Machine_forget_below : L2.Fun K "forget_below" "Machine.forget_below" st_q_Machine_forget_below (He.fAd K ("Machine", some "forget_below")) (FD 13)
  B_q_Machine_forget_below : Binds K (FD 13) ["self", "bound"] []
  me_q_Machine_forget_below : Meth K (He.ga K "Machine") "forget_below" (He.fAd K ("Machine", some "forget_below"))
  F_q_Machine_forget : L2.Fun K "forget" "Machine.forget" st_q_Machine_forget (He.fAd K ("Machine", some "forget")) (FD 14)
  B_q_Machine_forget : Binds K (FD 14) ["self"] []
  me_q_Machine_forget : Meth K (He.ga K "Machine") "forget" (He.fAd K ("Machine", some "forget"))
  F_q_Machine_do : L2.Fun K "do" "Machine.do" st_q_Machine_do (He.fAd K ("Machine", some "do")) (FD 15)
  B_q_Machine_do : Binds K (FD 15) ["self", "instruction"] []
  me_q_Machine_do : Meth K (He.ga K "Machine") "do" (He.fAd K ("Machine", some "do"))
  F_q_next_places : L2.Fun K "next_places" "next_places" st_q_next_places (He.fAd K ("next_places", none)) (FD 16)
  B_q_next_places : Binds K (FD 16) ["instruction", "place"] []
  m_q_next_places : mg "next_places" = some (.ref (He.fAd K ("next_places", none)))
  F_q_Machine_told : L2.Fun K "told" "Machine.told" st_q_Machine_told (He.fAd K ("Machine", some "told")) (FD 17)
  B_q_Machine_told : Binds K (FD 17) ["self", "place"] []
  me_q_Machine_told : Meth K (He.ga K "Machine") "told" (He.fAd K ("Machine", some "told"))
  F_q_successors : L2.Fun K "successors" "successors" st_q_successors (He.fAd K ("successors", none)) (FD 18)
  B_q_successors : Binds K (FD 18) ["code", "stop"] []
  m_q_successors : mg "successors" = some (.ref (He.fAd K ("successors", none)))
  F_q_first_values : L2.Fun K "first_values" "first_values" st_q_first_values (He.fAd K ("first_values", none)) (FD 19)
  B_q_first_values : Binds K (FD 19) [] []
  m_q_first_values : mg "first_values" = some (.ref (He.fAd K ("first_values", none)))
  F_q_first_stop : L2.Fun K "first_stop" "first_stop" st_q_first_stop (He.fAd K ("first_stop", none)) (FD 20)
  B_q_first_stop : Binds K (FD 20) [] []
  m_q_first_stop : mg "first_stop" = some (.ref (He.fAd K ("first_stop", none)))
  F_q_is_integer : L2.Fun K "is_integer" "is_integer" st_q_is_integer (He.fAd K ("is_integer", none)) (FD 21)
  B_q_is_integer : Binds K (FD 21) ["thing", "least", "most"] []
  m_q_is_integer : mg "is_integer" = some (.ref (He.fAd K ("is_integer", none)))
  F_q_stop_at : L2.Fun K "stop_at" "stop_at" st_q_stop_at (He.fAd K ("stop_at", none)) (FD 22)
  B_q_stop_at : Binds K (FD 22) ["code", "path"] []
  m_q_stop_at : mg "stop_at" = some (.ref (He.fAd K ("stop_at", none)))
  F_q_form_of : L2.Fun K "form_of" "form_of" st_q_form_of (He.fAd K ("form_of", none)) (FD 23)
  B_q_form_of : Binds K (FD 23) ["word"] []
  m_q_form_of : mg "form_of" = some (.ref (He.fAd K ("form_of", none)))
  F_q_is_register : L2.Fun K "is_register" "is_register" st_q_is_register (He.fAd K ("is_register", none)) (FD 24)
  B_q_is_register : Binds K (FD 24) ["thing"] []
  m_q_is_register : mg "is_register" = some (.ref (He.fAd K ("is_register", none)))
  F_q_is_basis : L2.Fun K "is_basis" "is_basis" st_q_is_basis (He.fAd K ("is_basis", none)) (FD 25)
  B_q_is_basis : Binds K (FD 25) ["thing"] []
  m_q_is_basis : mg "is_basis" = some (.ref (He.fAd K ("is_basis", none)))
  F_q_is_name : L2.Fun K "is_name" "is_name" st_q_is_name (He.fAd K ("is_name", none)) (FD 26)
  B_q_is_name : Binds K (FD 26) ["thing"] []
  m_q_is_name : mg "is_name" = some (.ref (He.fAd K ("is_name", none)))
  F_q_part_fits : L2.Fun K "part_fits" "part_fits" st_q_part_fits (He.fAd K ("part_fits", none)) (FD 27)
  B_q_part_fits : Binds K (FD 27) ["part", "sort", "size"] []
  m_q_part_fits : mg "part_fits" = some (.ref (He.fAd K ("part_fits", none)))
  F_q_is_instruction : L2.Fun K "is_instruction" "is_instruction" st_q_is_instruction (He.fAd K ("is_instruction", none)) (FD 28)
  B_q_is_instruction : Binds K (FD 28) ["thing", "size"] []
  m_q_is_instruction : mg "is_instruction" = some (.ref (He.fAd K ("is_instruction", none)))
  F_q_need_code : L2.Fun K "need_code" "need_code" st_q_need_code (He.fAd K ("need_code", none)) (FD 29)
  B_q_need_code : Binds K (FD 29) ["thing"] []
  m_q_need_code : mg "need_code" = some (.ref (He.fAd K ("need_code", none)))
  F_q_run : L2.Fun K "run" "run" st_q_run (He.fAd K ("run", none)) (FD 30)
  B_q_run : Binds K (FD 30) ["code", "path"] []
  m_q_run : mg "run" = some (.ref (He.fAd K ("run", none)))
  F_q_following : L2.Fun K "following" "following" st_q_following (He.fAd K ("following", none)) (FD 31)
  B_q_following : Binds K (FD 31) ["code", "path"] []
  m_q_following : mg "following" = some (.ref (He.fAd K ("following", none)))
  F_q_breaking : L2.Fun K "breaking" "breaking" st_q_breaking (He.fAd K ("breaking", none)) (FD 32)
  B_q_breaking : Binds K (FD 32) ["code", "path"] []
  m_q_breaking : mg "breaking" = some (.ref (He.fAd K ("breaking", none)))
  F_q_law_1 : L2.Fun K "law" "law" st_q_law_1 (He.fAd K ("law", none)) (FD 33)
  B_q_law_1 : Binds K (FD 33) ["script"] []
  m_q_law_1 : mg "law" = some (.ref (He.fAd K ("law", none)))
section
variable {P : Program} {w : World} {K : PySem.W.Frag} {mg : Str → Option Value} {base : Heap} {FD : Nat → FuncData}
theorem ok_p_law_begin (T : Tx w K mg FD) : FnG P w K mg base 1 (He.fAd K ("_law_begin", none)) (FD 0) ["script"] (spM (kk K) f_p_law_begin) := by
  exact fn_okT T.F_p_law_begin sc_p_law_begin fun cdv A outer s H E m gu hr tk ps => (s_cons (s_set 1 sc_p_law_begin.nd (c_if (c_tcmp (o_ne hr.units) (c_var 0) (c_lst c_anil)) (c_callTy f_list T.b_list (by decide +kernel) (c_acons (c_var 0) c_anil)) (c_lst (c_acons c_int c_anil)))) (s_one (s_ret (c_dicN (d_cons c_str (c_var 1) (d_cons c_str (c_lcN (own := [("cell", 2)]) rfl sc_p_law_begin.nd (c_src (c_var 1)) (blkOk_by (by kernel_rfl)) (fun _ _ _ _ _ => (pg_name (i := 2) sc_p_law_begin.nd rfl (by first | exact Or.inl rfl | exact Or.inr rfl))) (tg_var 2) (fun _ _ _ _ _ => pts_yes) (fun _ _ _ _ _ => (c_if (c_tcmp o_ge (c_var 2) (c_op o_pow c_int c_int)) (c_var 2) c_int))) (d_cons c_str c_int d_nil)))))))
theorem ok_p_law_mixed (T : Tx w K mg FD) : FnG P w K mg base 1 (He.fAd K ("_law_mixed", none)) (FD 1) ["cell", "k"] (spM (kk K) f_p_law_mixed) := by
  exact fn_okT T.F_p_law_mixed sc_p_law_mixed fun cdv A outer s H E m gu hr tk ps => (s_cons (s_set 0 sc_p_law_mixed.nd (c_op o_mod (c_callTy f_int T.b_int (by decide +kernel) (c_acons (c_var 0) c_anil)) c_int)) (s_one (s_ret (c_op o_mod (c_op o_mul (c_op o_mod (c_op o_add (c_op o_add (c_op o_mul (c_var 0) (c_op o_add c_int (c_op o_mul (c_op o_mul c_int (c_var 1)) (c_var 1)))) (c_op o_mul c_int (c_var 1))) c_int) c_int) c_int) c_int))))
theorem ok_p_law_draw (T : Tx w K mg FD) (G_p_law_mixed : FnG P w K mg base 1 (He.fAd K ("_law_mixed", none)) (FD 1) ["cell", "k"] (spM (kk K) f_p_law_mixed)) : FnG P w K mg base 2 (He.fAd K ("_law_draw", none)) (FD 2) ["state", "many"] (spM (kk K) f_p_law_draw) := by
  exact fn_okT T.F_p_law_draw sc_p_law_draw fun cdv A outer s H E m gu hr tk ps => (s_cons (s_set 2 sc_p_law_draw.nd (c_idx (hu_of hr) (c_var 0) c_str)) (s_cons (s_asg (c_op o_add (c_var 2) c_int) (g_sub (hu_of hr) (c_var 0) c_str)) (s_cons (s_set 3 sc_p_law_draw.nd (c_op o_mod (c_callTy f_int T.b_int (by decide +kernel) (c_acons (c_var 2) c_anil)) (c_callB f_len T.b_len (by decide +kernel) (c_acons (c_idx (hu_of hr) (c_var 0) c_str) c_anil)))) (s_cons (s_set 4 sc_p_law_draw.nd (c_idx (hu_of hr) (c_idx (hu_of hr) (c_var 0) c_str) (c_var 3))) (s_cons (s_if (c_tcmp o_gt (c_var 4) c_int) (s_cons (s_asg (c_op o_div (c_var 4) (c_var 1)) (g_sub (hu_of hr) (c_idx (hu_of hr) (c_var 0) c_str) (c_var 3))) (s_one (s_ret (c_op o_mod (c_callTy f_int T.b_int (by decide +kernel) (c_acons (c_var 4) c_anil)) (c_var 1))))) s_nil) (s_cons (s_set 5 sc_p_law_draw.nd (c_callG G_p_law_mixed gu (hr.mono (by decide)) tk T.m_p_law_mixed T.F_p_law_mixed.kp T.B_p_law_mixed (c_acons (c_callG G_p_law_mixed gu (hr.mono (by decide)) tk T.m_p_law_mixed T.F_p_law_mixed.kp T.B_p_law_mixed (c_acons (c_idx (hu_of hr) (c_idx (hu_of hr) (c_var 0) c_str) (c_var 3)) (c_acons (c_var 2) c_anil))) (c_acons (c_op o_add c_int (c_var 2)) c_anil)))) (s_one (s_ret (c_op o_mod (c_op o_div (c_callTy f_int T.b_int (by decide +kernel) (c_acons (c_op o_add (c_op o_mul (c_var 5) c_int) (c_callG G_p_law_mixed gu (hr.mono (by decide)) tk T.m_p_law_mixed T.F_p_law_mixed.kp T.B_p_law_mixed (c_acons (c_var 5) (c_acons (c_op o_add c_int (c_var 2)) c_anil)))) c_anil)) c_int) (c_var 1))))))))))
theorem ok_p_law_of (T : Tx w K mg FD) (G_p_law_draw : FnG P w K mg base 2 (He.fAd K ("_law_draw", none)) (FD 2) ["state", "many"] (spM (kk K) f_p_law_draw)) : FnG P w K mg base 3 (He.fAd K ("_law_of", none)) (FD 3) ["state", "some"] (spM (kk K) f_p_law_of) := by
  exact fn_okT T.F_p_law_of sc_p_law_of fun cdv A outer s H E m gu hr tk ps => (s_one (s_ret (c_idx (hu_of hr) (c_var 1) (c_callG G_p_law_draw gu (hr.mono (by decide)) tk T.m_p_law_draw T.F_p_law_draw.kp T.B_p_law_draw (c_acons (c_var 0) (c_acons (c_callB f_len T.b_len (by decide +kernel) (c_acons (c_var 1) c_anil)) c_anil))))))
theorem ok_p_law_rows_1 (T : Tx w K mg FD) : FnG P w K mg base 1 (He.fAd K ("_law_rows", none)) (FD 4) ["one", "two", "n"] (spM (kk K) f_p_law_rows_1) := by
  exact fn_okT T.F_p_law_rows_1 sc_p_law_rows_1 fun cdv A outer s H E m gu hr tk ps => (s_cons (s_set 3 sc_p_law_rows_1.nd (c_lst (c_acons (c_tup (c_acons (c_lst (c_acons (c_tup (c_acons c_str (c_acons c_int c_anil))) (c_acons (c_tup (c_acons c_str (c_acons (c_var 0) c_anil))) c_anil))) (c_acons c_str c_anil))) (c_acons (c_tup (c_acons (c_lst (c_acons (c_tup (c_acons c_str (c_acons c_int c_anil))) (c_acons (c_tup (c_acons c_str (c_acons (c_var 0) c_anil))) c_anil))) (c_acons c_str c_anil))) c_anil)))) (s_cons (s_set 3 sc_p_law_rows_1.nd (c_op o_add (c_var 3) (c_lst (c_acons (c_tup (c_acons (c_lst (c_acons (c_tup (c_acons c_str (c_acons (c_var 0) c_anil))) c_anil)) (c_acons c_str c_anil))) (c_acons (c_tup (c_acons (c_lst (c_acons (c_tup (c_acons c_str (c_acons (c_var 1) c_anil))) (c_acons (c_tup (c_acons c_str (c_acons (c_var 0) c_anil))) c_anil))) (c_acons c_str c_anil))) (c_acons (c_tup (c_acons (c_lst (c_acons (c_tup (c_acons c_str (c_acons (c_var 2) c_anil))) c_anil)) (c_acons c_str c_anil))) c_anil)))))) (s_cons (s_set 3 sc_p_law_rows_1.nd (c_op o_add (c_var 3) (c_lst (c_acons (c_tup (c_acons (c_lst (c_acons (c_tup (c_acons c_str (c_acons (c_var 2) c_anil))) (c_acons (c_tup (c_acons c_str (c_acons (c_var 2) c_anil))) c_anil))) (c_acons c_str c_anil))) (c_acons (c_tup (c_acons (c_lst (c_acons (c_tup (c_acons c_str (c_acons (c_var 2) c_anil))) (c_acons (c_tup (c_acons c_str (c_acons (c_op o_add (c_var 2) c_int) c_anil))) c_anil))) (c_acons c_str c_anil))) c_anil))))) (s_cons (s_set 3 sc_p_law_rows_1.nd (c_op o_add (c_var 3) (c_lst (c_acons (c_tup (c_acons (c_lst (c_acons (c_tup (c_acons c_str (c_acons (c_var 2) c_anil))) (c_acons (c_tup (c_acons c_str (c_acons (c_op o_sub c_int (c_var 2)) c_anil))) c_anil))) (c_acons c_str c_anil))) (c_acons (c_tup (c_acons (c_lst (c_acons (c_tup (c_acons c_str (c_acons (c_var 2) c_anil))) (c_acons (c_tup (c_acons c_str (c_acons c_int c_anil))) c_anil))) (c_acons c_str c_anil))) c_anil))))) (s_cons (s_set 3 sc_p_law_rows_1.nd (c_op o_add (c_var 3) (c_lst (c_acons (c_tup (c_acons (c_lst (c_acons (c_tup (c_acons c_str (c_acons c_str (c_acons (c_neg c_int) (c_acons (c_var 0) c_anil))))) c_anil)) (c_acons c_str c_anil))) (c_acons (c_tup (c_acons (c_lst (c_acons (c_tup (c_acons c_str (c_acons c_int c_anil))) (c_acons (c_tup (c_acons c_str (c_acons c_str (c_acons (c_neg c_int) (c_acons (c_var 0) c_anil))))) c_anil))) (c_acons c_str c_anil))) c_anil))))) (s_cons (s_set 3 sc_p_law_rows_1.nd (c_op o_add (c_var 3) (c_lst (c_acons (c_tup (c_acons (c_lst (c_acons (c_tup (c_acons c_str (c_acons c_str (c_acons c_int (c_acons (c_var 0) c_anil))))) c_anil)) (c_acons c_str c_anil))) (c_acons (c_tup (c_acons (c_lst (c_acons (c_tup (c_acons c_str (c_acons (c_var 0) (c_acons c_str (c_acons c_int c_anil))))) c_anil)) (c_acons c_str c_anil))) c_anil))))) (s_cons (s_set 3 sc_p_law_rows_1.nd (c_op o_add (c_var 3) (c_lst (c_acons (c_tup (c_acons (c_lst (c_acons (c_tup (c_acons c_str (c_acons (c_var 2) c_anil))) (c_acons (c_tup (c_acons c_str (c_acons (c_var 0) (c_acons c_str (c_acons (c_var 2) c_anil))))) c_anil))) (c_acons c_str c_anil))) (c_acons (c_tup (c_acons (c_lst (c_acons (c_tup (c_acons c_str (c_acons (c_var 2) c_anil))) (c_acons (c_tup (c_acons c_str (c_acons (c_var 0) (c_acons c_str (c_acons (c_op o_add (c_var 2) c_int) c_anil))))) c_anil))) (c_acons c_str c_anil))) c_anil))))) (s_cons (s_set 3 sc_p_law_rows_1.nd (c_op o_add (c_var 3) (c_lst (c_acons (c_tup (c_acons (c_lst (c_acons (c_tup (c_acons c_str (c_acons (c_var 0) (c_acons c_int (c_acons (c_var 1) c_anil))))) c_anil)) (c_acons c_str c_anil))) (c_acons (c_tup (c_acons (c_lst (c_acons (c_tup (c_acons c_str (c_acons (c_var 1) (c_acons (c_var 0) (c_acons c_int c_anil))))) c_anil)) (c_acons c_str c_anil))) (c_acons (c_tup (c_acons (c_lst (c_acons (c_tup (c_acons c_str (c_acons (c_var 0) (c_acons c_int c_anil)))) c_anil)) (c_acons c_str c_anil))) c_anil)))))) (s_cons (s_set 3 sc_p_law_rows_1.nd (c_op o_add (c_var 3) (c_lst (c_acons (c_tup (c_acons (c_lst (c_acons (c_tup (c_acons c_str (c_acons (c_var 0) (c_acons (c_var 2) c_anil)))) (c_acons (c_tup (c_acons c_str (c_acons (c_var 1) (c_acons (c_var 0) (c_acons (c_op o_sub c_int (c_var 2)) c_anil))))) c_anil))) (c_acons c_str c_anil))) (c_acons (c_tup (c_acons (c_lst (c_acons (c_tup (c_acons c_str (c_acons (c_var 0) (c_acons c_int c_anil)))) (c_acons (c_tup (c_acons c_str (c_acons (c_var 0) c_anil))) c_anil))) (c_acons c_str c_anil))) c_anil))))) (s_cons (s_set 3 sc_p_law_rows_1.nd (c_op o_add (c_var 3) (c_lst (c_acons (c_tup (c_acons (c_lst (c_acons (c_tup (c_acons c_str (c_acons (c_var 0) (c_acons (c_var 2) c_anil)))) (c_acons (c_tup (c_acons c_str (c_acons (c_var 1) (c_acons (c_var 0) (c_acons (c_op o_sub c_int (c_var 2)) c_anil))))) c_anil))) (c_acons c_str c_anil))) c_anil)))) (s_cons (s_set 3 sc_p_law_rows_1.nd (c_op o_add (c_var 3) (c_lst (c_acons (c_tup (c_acons (c_lst (c_acons (c_tup (c_acons c_str (c_acons (c_var 0) (c_acons (c_var 2) c_anil)))) (c_acons (c_tup (c_acons c_str (c_acons (c_var 0) (c_acons (c_op o_sub c_int (c_var 2)) c_anil)))) c_anil))) (c_acons c_str c_anil))) (c_acons (c_tup (c_acons (c_lst (c_acons (c_tup (c_acons c_str (c_acons (c_var 0) (c_acons (c_var 2) c_anil)))) (c_acons (c_tup (c_acons c_str (c_acons (c_var 0) (c_acons (c_op o_sub c_int (c_var 2)) c_anil)))) c_anil))) (c_acons c_str c_anil))) c_anil))))) (s_cons (s_set 3 sc_p_law_rows_1.nd (c_op o_add (c_var 3) (c_lst (c_acons (c_tup (c_acons (c_lst (c_acons (c_tup (c_acons c_str (c_acons (c_var 0) (c_acons (c_neg c_int) c_anil)))) (c_acons (c_tup (c_acons c_str (c_acons (c_var 0) (c_acons (c_neg c_int) c_anil)))) c_anil))) (c_acons c_str c_anil))) (c_acons (c_tup (c_acons (c_lst (c_acons (c_tup (c_acons c_str (c_acons (c_var 0) (c_acons (c_neg c_int) c_anil)))) (c_acons (c_tup (c_acons c_str (c_acons (c_var 0) (c_acons c_int c_anil)))) c_anil))) (c_acons c_str c_anil))) c_anil))))) (s_cons (s_set 3 sc_p_law_rows_1.nd (c_op o_add (c_var 3) (c_lst (c_acons (c_tup (c_acons (c_lst (c_acons (c_tup (c_acons c_str (c_acons (c_var 0) (c_acons c_str (c_acons c_int c_anil))))) (c_acons (c_tup (c_acons c_str (c_acons (c_var 0) (c_acons c_int (c_acons (c_var 1) c_anil))))) c_anil))) (c_acons c_str c_anil))) c_anil)))) (s_cons (s_set 3 sc_p_law_rows_1.nd (c_op o_add (c_var 3) (c_lst (c_acons (c_tup (c_acons (c_lst (c_acons (c_tup (c_acons c_str (c_acons (c_var 0) (c_acons c_int c_anil)))) (c_acons (c_tup (c_acons c_str (c_acons (c_var 0) c_anil))) (c_acons (c_tup (c_acons c_str (c_acons (c_var 1) c_anil))) (c_acons (c_tup (c_acons c_str (c_acons (c_var 1) (c_acons (c_neg c_int) (c_acons (c_var 0) c_anil))))) c_anil))))) (c_acons c_str c_anil))) c_anil)))) (s_one (s_ret (c_var 3)))))))))))))))))
theorem ok_p_law_ends (T : Tx w K mg FD) : FnG P w K mg base 1 (He.fAd K ("_law_ends", none)) (FD 5) ["one", "n"] (spM (kk K) f_p_law_ends) := by
  exact fn_okT T.F_p_law_ends sc_p_law_ends fun cdv A outer s H E m gu hr tk ps => (s_cons (s_set 2 sc_p_law_ends.nd (c_lst (c_acons (c_tup (c_acons c_str (c_acons (c_var 0) (c_acons c_str (c_acons c_int c_anil))))) (c_acons (c_tup (c_acons c_str (c_acons (c_var 0) c_anil))) c_anil)))) (s_cons (s_set 3 sc_p_law_ends.nd (c_lstN (c_acons (c_tup (c_acons (c_lst (c_acons (c_tup (c_acons c_str c_anil)) c_anil)) (c_acons (c_tup (c_acons c_int c_anil)) (c_acons (c_tup c_anil) (c_acons (c_tup c_anil) c_anil))))) (c_acons (c_tup (c_acons (c_lst (c_acons (c_tup (c_acons c_str (c_acons (c_var 0) c_anil))) (c_acons (c_tup (c_acons c_str c_anil)) c_anil))) (c_acons (c_tup (c_acons c_int (c_acons c_int c_anil))) (c_acons (c_tup c_anil) (c_acons (c_tup (c_acons c_str c_anil)) c_anil))))) c_anil)))) (s_cons (s_expr (c_app (c_var 3) (c_tup (c_acons (c_lst (c_acons (c_tup (c_acons c_str (c_acons c_str (c_acons c_int (c_acons (c_var 0) c_anil))))) (c_acons (c_tup (c_acons c_str c_anil)) c_anil))) (c_acons (c_tup (c_acons c_int (c_acons c_int c_anil))) (c_acons (c_tup c_anil) (c_acons (c_tup (c_acons c_str c_anil)) c_anil))))))) (s_cons (s_expr (c_app (c_var 3) (c_tup (c_acons (c_op o_add (c_var 2) (c_lst (c_acons (c_tup (c_acons c_str (c_acons (c_var 0) c_anil))) (c_acons (c_tup (c_acons c_str (c_acons c_str (c_acons c_int (c_acons (c_var 0) c_anil))))) (c_acons (c_tup (c_acons c_str c_anil)) c_anil))))) (c_acons (c_tup (c_acons c_int (c_acons c_int (c_acons c_int (c_acons c_int (c_acons c_int c_anil)))))) (c_acons (c_tup c_anil) (c_acons (c_tup c_anil) c_anil))))))) (s_cons (s_expr (c_app (c_var 3) (c_tup (c_acons (c_lst (c_acons (c_tup (c_acons c_str (c_acons (c_var 1) c_anil))) (c_acons (c_tup (c_acons c_str (c_acons (c_var 1) c_anil))) (c_acons (c_tup (c_acons c_str c_anil)) c_anil)))) (c_acons (c_tup (c_acons c_int (c_acons c_int (c_acons c_int c_anil)))) (c_acons (c_tup c_anil) (c_acons (c_tup c_anil) c_anil))))))) (s_cons (s_expr (c_app (c_var 3) (c_tup (c_acons (c_lst (c_acons (c_tup (c_acons c_str (c_acons (c_var 0) c_anil))) c_anil)) (c_acons (c_tup (c_acons c_int c_anil)) (c_acons (c_tup c_anil) (c_acons (c_tup (c_acons c_str c_anil)) c_anil))))))) (s_cons (s_expr (c_app (c_var 3) (c_tup (c_acons (c_lst (c_acons (c_tup (c_acons c_str (c_acons c_str c_anil))) c_anil)) (c_acons (c_tup (c_acons c_int c_anil)) (c_acons (c_tup c_anil) (c_acons (c_tup (c_acons c_str c_anil)) c_anil))))))) (s_cons (s_expr (c_app (c_var 3) (c_tup (c_acons (c_lst (c_acons (c_tup (c_acons c_str (c_acons c_int c_anil))) c_anil)) (c_acons (c_tup (c_acons c_int (c_acons c_int c_anil))) (c_acons (c_tup (c_acons c_int c_anil)) (c_acons (c_tup (c_acons c_str c_anil)) c_anil))))))) (s_cons (s_expr (c_app (c_var 3) (c_tup (c_acons (c_lst (c_acons (c_tup (c_acons c_str (c_acons c_int c_anil))) c_anil)) (c_acons (c_tup (c_acons c_int (c_acons c_int (c_acons c_int c_anil)))) (c_acons (c_tup (c_acons c_int c_anil)) (c_acons (c_tup c_anil) c_anil))))))) (s_cons (s_expr (c_app (c_var 3) (c_tup (c_acons (c_lst (c_acons (c_tup (c_acons c_str (c_acons c_int c_anil))) (c_acons (c_tup (c_acons c_str (c_acons c_int c_anil))) c_anil))) (c_acons (c_tup (c_acons c_int (c_acons c_int c_anil))) (c_acons (c_tup (c_acons c_int c_anil)) (c_acons (c_tup (c_acons c_str c_anil)) c_anil))))))) (s_one (s_ret (c_op o_add (c_var 3) (c_lst (c_acons (c_tup (c_acons (c_lst (c_acons (c_tup (c_acons c_str (c_acons c_int c_anil))) (c_acons (c_tup (c_acons c_str (c_acons c_int c_anil))) (c_acons (c_tup (c_acons c_str c_anil)) c_anil)))) (c_acons (c_tup (c_acons c_int c_anil)) (c_acons (c_tup (c_acons c_int (c_acons c_int c_anil))) (c_acons (c_tup c_anil) c_anil))))) c_anil)))))))))))))))
theorem ok_q_Machine___init__ (T : Tx w K mg FD) : FnG P w K mg base 1 (He.fAd K ("Machine", some "__init__")) (FD 6) ["self", "number", "base", "sp", "held", "words"] (spM (kk K) f_q_Machine___init__) := by
  exact fn_okT T.F_q_Machine___init__ sc_q_Machine___init__ fun cdv A outer s H E m gu hr tk ps => (s_cons (s_fld T.cls_Machine T.na_Machine_number (c_var 0) (c_var 1)) (s_cons (s_fld T.cls_Machine T.na_Machine_base (c_var 0) (c_var 2)) (s_cons (s_fld T.cls_Machine T.na_Machine_sp (c_var 0) (c_var 3)) (s_cons (s_fld T.cls_Machine T.na_Machine_held (c_var 0) (c_var 4)) (s_one (s_fld T.cls_Machine T.na_Machine_words (c_var 0) (c_var 5)))))))
theorem ok_q_Machine_is_on (T : Tx w K mg FD) : FnG P w K mg base 1 (He.fAd K ("Machine", some "is_on")) (FD 7) ["self", "at"] (spM (kk K) f_q_Machine_is_on) := by
  exact fn_okT T.F_q_Machine_is_on sc_q_Machine_is_on fun cdv A outer s H E m gu hr tk ps => (s_one (s_ret (c_chain o_le o_le (c_op o_sub (c_fld T.cls_Machine T.na_Machine_base (c_var 0)) (c_gcon T.c_MOST_WORDS)) (c_var 1) (c_fld T.cls_Machine T.na_Machine_base (c_var 0)))))
theorem ok_q_Machine_move_sp (T : Tx w K mg FD) (G_q_Machine_is_on : FnG P w K mg base 1 (He.fAd K ("Machine", some "is_on")) (FD 7) ["self", "at"] (spM (kk K) f_q_Machine_is_on)) : FnG P w K mg base 2 (He.fAd K ("Machine", some "move_sp")) (FD 8) ["self", "sp"] (spM (kk K) f_q_Machine_move_sp) := by
  exact fn_okT T.F_q_Machine_move_sp sc_q_Machine_move_sp fun cdv A outer s H E m gu hr tk ps => (s_cons (s_if (c_tnot (c_tval (c_meth (c_var 0) T.cls_Machine T.me_q_Machine_is_on G_q_Machine_is_on gu (hr.mono (by decide)) tk T.B_q_Machine_is_on (c_acons (c_var 1) c_anil)))) (s_one (s_ret (c_gcon T.c_OFF_STACK))) s_nil) (s_cons (s_fld T.cls_Machine T.na_Machine_sp (c_var 0) (c_var 1)) (s_one (s_ret (c_gcon T.c_GOES_ON)))))
theorem ok_q_Machine_address (T : Tx w K mg FD) : FnG P w K mg base 1 (He.fAd K ("Machine", some "address")) (FD 9) ["self", "basis"] (spM (kk K) f_q_Machine_address) := by
  exact fn_okT T.F_q_Machine_address sc_q_Machine_address fun cdv A outer s H E m gu hr tk ps => (s_cons (s_if (c_tcmp (o_eq hr.units) (c_var 1) (c_gcon T.c_STACK)) (s_one (s_ret (c_fld T.cls_Machine T.na_Machine_sp (c_var 0)))) s_nil) (s_cons (s_set 2 sc_q_Machine_address.nd (c_idx (hu_of hr) (c_fld T.cls_Machine T.na_Machine_held (c_var 0)) (c_var 1))) (s_one (s_ret (c_if (c_tand (c_tcmp (o_eq hr.units) (c_idx (hu_of hr) (c_var 2) c_int) c_str) (c_tand1 (c_tcmp (o_eq hr.units) (c_idx (hu_of hr) (c_var 2) c_int) (c_fld T.cls_Machine T.na_Machine_number (c_var 0))))).pt (c_idx (hu_of hr) (c_var 2) c_int) c_non)))))
theorem ok_q_Machine_set_word (T : Tx w K mg FD) : FnG P w K mg base 1 (He.fAd K ("Machine", some "set_word")) (FD 10) ["self", "at", "value"] (spM (kk K) f_q_Machine_set_word) := by
  exact fn_okT T.F_q_Machine_set_word sc_q_Machine_set_word fun cdv A outer s H E m gu hr tk ps => (s_one (s_if (c_tcmp (o_eq hr.units) (c_var 2) (c_gcon T.c_ANY)) (s_one (s_expr (c_pop2 (c_fld T.cls_Machine T.na_Machine_words (c_var 0)) (c_var 1) c_non))) (s_one (s_asg (c_var 2) (g_sub (hu_of hr) (c_fld T.cls_Machine T.na_Machine_words (c_var 0)) (c_var 1))))))
theorem ok_q_Machine_do_stack (T : Tx w K mg FD) (G_q_Machine_address : FnG P w K mg base 1 (He.fAd K ("Machine", some "address")) (FD 9) ["self", "basis"] (spM (kk K) f_q_Machine_address)) (G_q_Machine_move_sp : FnG P w K mg base 2 (He.fAd K ("Machine", some "move_sp")) (FD 8) ["self", "sp"] (spM (kk K) f_q_Machine_move_sp)) (G_q_Machine_set_word : FnG P w K mg base 1 (He.fAd K ("Machine", some "set_word")) (FD 10) ["self", "at", "value"] (spM (kk K) f_q_Machine_set_word)) : FnG P w K mg base 3 (He.fAd K ("Machine", some "do_stack")) (FD 11) ["self", "instruction"] (spM (kk K) f_q_Machine_do_stack) := by
  exact fn_okT T.F_q_Machine_do_stack sc_q_Machine_do_stack fun cdv A outer s H E m gu hr tk ps => (s_cons (s_par 4 5 rfl sc_q_Machine_do_stack.nd (c_acons (c_idx (hu_of hr) (c_var 1) c_int) (c_acons (c_idx (hu_of hr) (c_var 1) c_int) c_anil))) (s_cons (s_if (c_tcmp (o_eq hr.units) (c_var 4) c_str) (s_cons (s_set 2 sc_q_Machine_do_stack.nd (c_meth (c_var 0) T.cls_Machine T.me_q_Machine_address G_q_Machine_address gu (hr.mono (by decide)) tk T.B_q_Machine_address (c_acons (c_var 5) c_anil))) (s_one (s_ret (c_if (c_tcmp o_is (c_var 2) c_non) (c_gcon T.c_WILD) (c_meth (c_var 0) T.cls_Machine T.me_q_Machine_move_sp G_q_Machine_move_sp gu (hr.mono (by decide)) tk T.B_q_Machine_move_sp (c_acons (c_op o_add (c_var 2) (c_idx (hu_of hr) (c_var 1) c_int)) c_anil)))))) s_nil) (s_cons (s_if (c_tcmp o_in (c_var 4) (c_tup (c_acons c_str (c_acons c_str c_anil)))) (s_one (s_ret (c_meth (c_var 0) T.cls_Machine T.me_q_Machine_move_sp G_q_Machine_move_sp gu (hr.mono (by decide)) tk T.B_q_Machine_move_sp (c_acons (c_if (c_tcmp (o_eq hr.units) (c_var 4) c_str) (c_op o_add (c_fld T.cls_Machine T.na_Machine_sp (c_var 0)) (c_var 5)) (c_op o_sub (c_fld T.cls_Machine T.na_Machine_sp (c_var 0)) (c_var 5))) c_anil)))) s_nil) (s_cons (s_set 2 sc_q_Machine_do_stack.nd (c_fld T.cls_Machine T.na_Machine_sp (c_var 0))) (s_cons (s_set 3 sc_q_Machine_do_stack.nd (c_meth (c_var 0) T.cls_Machine T.me_q_Machine_move_sp G_q_Machine_move_sp gu (hr.mono (by decide)) tk T.B_q_Machine_move_sp (c_acons (c_if (c_tcmp (o_eq hr.units) (c_var 4) c_str) (c_op o_sub (c_fld T.cls_Machine T.na_Machine_sp (c_var 0)) c_int) (c_op o_add (c_fld T.cls_Machine T.na_Machine_sp (c_var 0)) c_int)) c_anil))) (s_cons (s_if (c_tand (c_tcmp (o_eq hr.units) (c_var 3) (c_gcon T.c_GOES_ON)) (c_tand1 (c_tcmp (o_eq hr.units) (c_var 4) c_str))).pt (s_one (s_expr (c_meth (c_var 0) T.cls_Machine T.me_q_Machine_set_word G_q_Machine_set_word gu (hr.mono (by decide)) tk T.B_q_Machine_set_word (c_acons (c_fld T.cls_Machine T.na_Machine_sp (c_var 0)) (c_acons (c_idx (hu_of hr) (c_fld T.cls_Machine T.na_Machine_held (c_var 0)) (c_var 5)) c_anil))))) (s_one (s_if (c_tcmp (o_eq hr.units) (c_var 3) (c_gcon T.c_GOES_ON)) (s_one (s_asg (c_get2 (hu_of hr) (c_fld T.cls_Machine T.na_Machine_words (c_var 0)) (c_var 2) (c_gcon T.c_ANY)) (g_sub (hu_of hr) (c_fld T.cls_Machine T.na_Machine_held (c_var 0)) (c_var 5)))) s_nil))) (s_one (s_ret (c_var 3)))))))))
theorem ok_q_Machine_do_memory (T : Tx w K mg FD) (G_q_Machine_address : FnG P w K mg base 1 (He.fAd K ("Machine", some "address")) (FD 9) ["self", "basis"] (spM (kk K) f_q_Machine_address)) (G_q_Machine_is_on : FnG P w K mg base 1 (He.fAd K ("Machine", some "is_on")) (FD 7) ["self", "at"] (spM (kk K) f_q_Machine_is_on)) (G_q_Machine_set_word : FnG P w K mg base 1 (He.fAd K ("Machine", some "set_word")) (FD 10) ["self", "at", "value"] (spM (kk K) f_q_Machine_set_word)) : FnG P w K mg base 2 (He.fAd K ("Machine", some "do_memory")) (FD 12) ["self", "instruction"] (spM (kk K) f_q_Machine_do_memory) := by
  exact fn_okT T.F_q_Machine_do_memory sc_q_Machine_do_memory fun cdv A outer s H E m gu hr tk ps => (s_cons (s_set 2 sc_q_Machine_do_memory.nd (c_cmp (o_eq hr.units) (c_idx (hu_of hr) (c_var 1) c_int) c_str)) (s_cons (s_asg (c_if (c_tval (c_var 2)) (c_tup (c_acons (c_idx (hu_of hr) (c_var 1) c_int) (c_acons (c_idx (hu_of hr) (c_var 1) c_int) c_anil))) (c_tup (c_acons (c_idx (hu_of hr) (c_var 1) c_int) (c_acons (c_idx (hu_of hr) (c_var 1) c_int) c_anil)))) (g_of (pg_tup rfl (pgs_cons (pg_name (i := 4) sc_q_Machine_do_memory.nd rfl (by first | exact Or.inl rfl | exact Or.inr rfl)) (pgs_cons (pg_name (i := 5) sc_q_Machine_do_memory.nd rfl (by first | exact Or.inl rfl | exact Or.inr rfl)) pgs_nil))) (tg_tup (tgs_cons (tg_var 4) (tgs_cons (tg_var 5) tgs_nil))))) (s_cons (s_set 3 sc_q_Machine_do_memory.nd (c_meth (c_var 0) T.cls_Machine T.me_q_Machine_address G_q_Machine_address gu (hr.mono (by decide)) tk T.B_q_Machine_address (c_acons (c_var 4) c_anil))) (s_cons (s_if (c_tor (c_tcmp o_is (c_var 3) c_non) (c_tor1 (c_tnot (c_tval (c_meth (c_var 0) T.cls_Machine T.me_q_Machine_is_on G_q_Machine_is_on gu (hr.mono (by decide)) tk T.B_q_Machine_is_on (c_acons (c_op o_add (c_var 3) (c_var 5)) c_anil)))))).pt (s_one (s_ret (c_gcon T.c_WILD))) s_nil) (s_cons (s_if (c_tval (c_var 2)) (s_one (s_expr (c_meth (c_var 0) T.cls_Machine T.me_q_Machine_set_word G_q_Machine_set_word gu (hr.mono (by decide)) tk T.B_q_Machine_set_word (c_acons (c_op o_add (c_var 3) (c_var 5)) (c_acons (c_idx (hu_of hr) (c_fld T.cls_Machine T.na_Machine_held (c_var 0)) (c_idx (hu_of hr) (c_var 1) c_int)) c_anil))))) (s_one (s_asg (c_get2 (hu_of hr) (c_fld T.cls_Machine T.na_Machine_words (c_var 0)) (c_op o_add (c_var 3) (c_var 5)) (c_gcon T.c_ANY)) (g_sub (hu_of hr) (c_fld T.cls_Machine T.na_Machine_held (c_var 0)) (c_idx (hu_of hr) (c_var 1) c_int))))) (s_one (s_ret (c_gcon T.c_GOES_ON))))))))
theorem ok_q_Machine_forget_below (T : Tx w K mg FD) : FnG P w K mg base 1 (He.fAd K ("Machine", some "forget_below")) (FD 13) ["self", "bound"] (spM (kk K) f_q_Machine_forget_below) := by
  exact fn_okT T.F_q_Machine_forget_below sc_q_Machine_forget_below fun cdv A outer s H E m gu hr tk ps => (s_one (s_for ps rfl (c_src (c_lock (c_lc (own := [("at", 2)]) rfl sc_q_Machine_forget_below.nd (c_keys (c_fld T.cls_Machine T.na_Machine_words (c_var 0))) (blkOk_by (by kernel_rfl)) (fun _ _ _ _ _ => (pg_name (i := 2) sc_q_Machine_forget_below.nd rfl (by first | exact Or.inl rfl | exact Or.inr rfl))) (tg_var 2) (fun _ _ _ _ _ => (pts_one (c_tcmp o_lt (c_var 2) (c_var 1)))) (fun _ _ _ _ _ => (c_var 2))))) (g_of (pg_name (i := 2) sc_q_Machine_forget_below.nd rfl (by first | exact Or.inl rfl | exact Or.inr rfl)) (tg_var 2)) (s_one (s_del (c_fld T.cls_Machine T.na_Machine_words (c_var 0)) (c_var 2)))))
theorem ok_q_Machine_forget (T : Tx w K mg FD) (G_q_Machine_forget_below : FnG P w K mg base 1 (He.fAd K ("Machine", some "forget_below")) (FD 13) ["self", "bound"] (spM (kk K) f_q_Machine_forget_below)) : FnG P w K mg base 2 (He.fAd K ("Machine", some "forget")) (FD 14) ["self"] (spM (kk K) f_q_Machine_forget) := by
  exact fn_okT T.F_q_Machine_forget sc_q_Machine_forget fun cdv A outer s H E m gu hr tk ps => (s_cons (s_for ps rfl (c_src (c_gcon T.c_SCRATCH)) (g_of (pg_name (i := 1) sc_q_Machine_forget.nd rfl (by first | exact Or.inl rfl | exact Or.inr rfl)) (tg_var 1)) (s_one (s_asg (c_gcon T.c_ANY) (g_sub (hu_of hr) (c_fld T.cls_Machine T.na_Machine_held (c_var 0)) (c_var 1))))) (s_one (s_expr (c_meth (c_var 0) T.cls_Machine T.me_q_Machine_forget_below G_q_Machine_forget_below gu (hr.mono (by decide)) tk T.B_q_Machine_forget_below (c_acons (c_fld T.cls_Machine T.na_Machine_sp (c_var 0)) c_anil)))))
theorem ok_q_Machine_do (T : Tx w K mg FD) (G_q_Machine_do_memory : FnG P w K mg base 2 (He.fAd K ("Machine", some "do_memory")) (FD 12) ["self", "instruction"] (spM (kk K) f_q_Machine_do_memory)) (G_q_Machine_do_stack : FnG P w K mg base 3 (He.fAd K ("Machine", some "do_stack")) (FD 11) ["self", "instruction"] (spM (kk K) f_q_Machine_do_stack)) (G_q_Machine_forget : FnG P w K mg base 2 (He.fAd K ("Machine", some "forget")) (FD 14) ["self"] (spM (kk K) f_q_Machine_forget)) : FnG P w K mg base 4 (He.fAd K ("Machine", some "do")) (FD 15) ["self", "instruction"] (spM (kk K) f_q_Machine_do) := by
  exact fn_okT T.F_q_Machine_do sc_q_Machine_do fun cdv A outer s H E m gu hr tk ps => (s_cons (s_set 2 sc_q_Machine_do.nd (c_idx (hu_of hr) (c_var 1) c_int)) (s_cons (s_if (c_tcmp o_in (c_var 2) (c_tup (c_acons c_str (c_acons c_str (c_acons c_str (c_acons c_str (c_acons c_str c_anil))))))) (s_one (s_ret (c_meth (c_var 0) T.cls_Machine T.me_q_Machine_do_stack G_q_Machine_do_stack gu (hr.mono (by decide)) tk T.B_q_Machine_do_stack (c_acons (c_var 1) c_anil)))) s_nil) (s_cons (s_if (c_tcmp o_in (c_var 2) (c_tup (c_acons c_str (c_acons c_str c_anil)))) (s_one (s_ret (c_meth (c_var 0) T.cls_Machine T.me_q_Machine_do_memory G_q_Machine_do_memory gu (hr.mono (by decide)) tk T.B_q_Machine_do_memory (c_acons (c_var 1) c_anil)))) s_nil) (s_cons (s_if (c_tcmp (o_eq hr.units) (c_var 2) c_str) (s_one (s_asg (c_idx (hu_of hr) (c_fld T.cls_Machine T.na_Machine_held (c_var 0)) (c_idx (hu_of hr) (c_var 1) c_int)) (g_sub (hu_of hr) (c_fld T.cls_Machine T.na_Machine_held (c_var 0)) (c_idx (hu_of hr) (c_var 1) c_int)))) (s_one (s_if (c_tcmp (o_eq hr.units) (c_var 2) c_str) (s_one (s_asg (c_tup (c_acons c_str (c_acons (c_fld T.cls_Machine T.na_Machine_number (c_var 0)) (c_acons (c_op o_add (c_fld T.cls_Machine T.na_Machine_sp (c_var 0)) (c_idx (hu_of hr) (c_var 1) c_int)) c_anil)))) (g_sub (hu_of hr) (c_fld T.cls_Machine T.na_Machine_held (c_var 0)) (c_idx (hu_of hr) (c_var 1) c_int)))) (s_one (s_if (c_tcmp (o_eq hr.units) (c_var 2) c_str) (s_one (s_asg (c_gcon T.c_ANY) (g_sub (hu_of hr) (c_fld T.cls_Machine T.na_Machine_held (c_var 0)) (c_idx (hu_of hr) (c_var 1) c_int)))) (s_one (s_if (c_tcmp (o_eq hr.units) (c_var 2) c_str) (s_one (s_expr (c_meth0 (c_var 0) T.cls_Machine T.me_q_Machine_forget G_q_Machine_forget gu (hr.mono (by decide)) tk T.B_q_Machine_forget))) s_nil))))))) (s_one (s_ret (c_gcon T.c_GOES_ON)))))))
theorem ok_q_next_places (T : Tx w K mg FD) : FnG P w K mg base 1 (He.fAd K ("next_places", none)) (FD 16) ["instruction", "place"] (spM (kk K) f_q_next_places) := by
  exact fn_okT T.F_q_next_places sc_q_next_places fun cdv A outer s H E m gu hr tk ps => (s_cons (s_if (c_tcmp (o_eq hr.units) (c_idx (hu_of hr) (c_var 0) c_int) c_str) (s_one (s_ret (c_lst (c_acons (c_idx (hu_of hr) (c_var 0) c_int) c_anil)))) s_nil) (s_cons (s_if (c_tcmp (o_eq hr.units) (c_idx (hu_of hr) (c_var 0) c_int) c_str) (s_one (s_ret (c_sortSet rfl T.b_sorted T.b_set (by decide +kernel) (by decide +kernel) (c_acons (c_lst (c_acons (c_idx (hu_of hr) (c_var 0) c_int) (c_acons (c_op o_add (c_var 1) c_int) c_anil))) c_anil)))) s_nil) (s_one (s_ret (c_lst (c_acons (c_op o_add (c_var 1) c_int) c_anil))))))
theorem ok_q_Machine_told (T : Tx w K mg FD) : FnG P w K mg base 1 (He.fAd K ("Machine", some "told")) (FD 17) ["self", "place"] (spM (kk K) f_q_Machine_told) := by
  exact fn_okT T.F_q_Machine_told sc_q_Machine_told fun cdv A outer s H E m gu hr tk ps => (s_cons (s_set 2 sc_q_Machine_told.nd (c_callTy f_tuple T.b_tuple (by decide +kernel) (c_acons (c_lc (own := [("reg", 3)]) rfl sc_q_Machine_told.nd (c_src (c_gcon T.c_REGISTERS)) (blkOk_by (by kernel_rfl)) (fun _ _ _ _ _ => (pg_name (i := 3) sc_q_Machine_told.nd rfl (by first | exact Or.inl rfl | exact Or.inr rfl))) (tg_var 3) (fun _ _ _ _ _ => pts_yes) (fun _ _ _ _ _ => (c_idx (hu_of hr) (c_fld T.cls_Machine T.na_Machine_held (c_var 0)) (c_var 3)))) c_anil))) (s_one (s_ret (c_tup (c_acons (c_var 1) (c_acons (c_fld T.cls_Machine T.na_Machine_sp (c_var 0)) (c_acons (c_var 2) (c_acons (c_callTy f_tupleF T.b_tuple (by decide +kernel) (c_acons (c_lc (own := [("at", 4)]) rfl sc_q_Machine_told.nd (c_src (c_callB (f_sorted rfl) T.b_sorted (by decide +kernel) (c_acons (c_fld T.cls_Machine T.na_Machine_words (c_var 0)) c_anil))) (blkOk_by (by kernel_rfl)) (fun _ _ _ _ _ => (pg_name (i := 4) sc_q_Machine_told.nd rfl (by first | exact Or.inl rfl | exact Or.inr rfl))) (tg_var 4) (fun _ _ _ _ _ => pts_yes) (fun _ _ _ _ _ => (c_tup (c_acons (c_var 4) (c_acons (c_idx (hu_of hr) (c_fld T.cls_Machine T.na_Machine_words (c_var 0)) (c_var 4)) c_anil))))) c_anil)) c_anil))))))))
theorem ok_q_successors (T : Tx w K mg FD) (G_q_Machine___init__ : FnG P w K mg base 1 (He.fAd K ("Machine", some "__init__")) (FD 6) ["self", "number", "base", "sp", "held", "words"] (spM (kk K) f_q_Machine___init__)) (G_q_Machine_do : FnG P w K mg base 4 (He.fAd K ("Machine", some "do")) (FD 15) ["self", "instruction"] (spM (kk K) f_q_Machine_do)) (G_q_Machine_told : FnG P w K mg base 1 (He.fAd K ("Machine", some "told")) (FD 17) ["self", "place"] (spM (kk K) f_q_Machine_told)) (G_q_next_places : FnG P w K mg base 1 (He.fAd K ("next_places", none)) (FD 16) ["instruction", "place"] (spM (kk K) f_q_next_places)) : FnG P w K mg base 5 (He.fAd K ("successors", none)) (FD 18) ["code", "stop"] (spM (kk K) f_q_successors) := by
  exact fn_okT T.F_q_successors sc_q_successors fun cdv A outer s H E m gu hr tk ps => (s_cons (s_asg (c_var 1) (g_of (pg_tup rfl (pgs_cons (pg_name (i := 6) sc_q_successors.nd rfl (by first | exact Or.inl rfl | exact Or.inr rfl)) (pgs_cons (pg_name (i := 7) sc_q_successors.nd rfl (by first | exact Or.inl rfl | exact Or.inr rfl)) (pgs_cons (pg_name (i := 8) sc_q_successors.nd rfl (by first | exact Or.inl rfl | exact Or.inr rfl)) (pgs_cons (pg_name (i := 9) sc_q_successors.nd rfl (by first | exact Or.inl rfl | exact Or.inr rfl)) pgs_nil))))) (tg_tup (tgs_cons (tg_var 6) (tgs_cons (tg_var 7) (tgs_cons (tg_var 8) (tgs_cons (tg_var 9) tgs_nil))))))) (s_cons (s_set 2 sc_q_successors.nd (c_idx (hu_of hr) (c_var 0) (c_var 6))) (s_cons (s_set 3 sc_q_successors.nd (c_make (k := kk K) (n := 3) (c := 0) T.mk_Machine G_q_Machine___init__ gu (hr.mono (by decide)) tk T.g_Machine T.B_q_Machine___init__ (c_acons c_int (c_acons c_int (c_acons (c_var 7) c_anil))) (k_cons (c_dictZ rfl T.b_dict T.b_zip (by decide +kernel) (c_acons (c_gcon T.c_REGISTERS) (c_acons (c_var 8) c_anil))) (k_cons (c_dictN rfl T.b_dict (by decide +kernel) (c_acons (c_var 9) c_anil)) k_nil)))) (s_cons (s_if (c_tcmp (o_eq hr.units) (c_idx (hu_of hr) (c_var 2) c_int) c_str) (s_one (s_ret (c_tup (c_acons (c_lst c_anil) (c_acons (c_if (c_tand (c_tcmp (o_eq hr.units) (c_var 7) c_int) (c_tand1 (c_tcmp (o_eq hr.units) (c_get2 (hu_of hr) (c_fld T.cls_Machine T.na_Machine_words (c_var 3)) c_int (c_gcon T.c_ANY)) (c_gcon T.c_OUT)))).pt (c_lst c_anil) (c_lst (c_acons (c_gcon T.c_RETURN) c_anil))) c_anil))))) s_nil) (s_cons (s_set 4 sc_q_successors.nd (c_meth (c_var 3) T.cls_Machine T.me_q_Machine_do G_q_Machine_do gu (hr.mono (by decide)) tk T.B_q_Machine_do (c_acons (c_var 2) c_anil))) (s_cons (s_if (c_tcmp (o_ne hr.units) (c_var 4) (c_gcon T.c_GOES_ON)) (s_one (s_ret (c_tup (c_acons (c_lst c_anil) (c_acons (c_lst (c_acons (c_var 4) c_anil)) c_anil))))) s_nil) (s_cons (s_set 5 sc_q_successors.nd (c_callG G_q_next_places gu (hr.mono (by decide)) tk T.m_q_next_places T.F_q_next_places.kp T.B_q_next_places (c_acons (c_var 2) (c_acons (c_var 6) c_anil)))) (s_one (s_ret (c_tup (c_acons (c_lc (own := [("at", 10)]) rfl sc_q_successors.nd (c_src (c_var 5)) (blkOk_by (by kernel_rfl)) (fun _ _ _ _ _ => (pg_name (i := 10) sc_q_successors.nd rfl (by first | exact Or.inl rfl | exact Or.inr rfl))) (tg_var 10) (fun _ _ _ _ _ => (pts_one (c_tcmp o_lt (c_var 10) (c_callB f_len T.b_len (by decide +kernel) (c_acons (c_var 0) c_anil))))) (fun _ _ _ _ _ => (c_meth (c_var 3) T.cls_Machine T.me_q_Machine_told G_q_Machine_told gu (hr.mono (by decide)) takes0 T.B_q_Machine_told (c_acons (c_var 10) c_anil)))) (c_acons (c_if (c_tcmp o_in (c_callB f_len T.b_len (by decide +kernel) (c_acons (c_var 0) c_anil)) (c_var 5)) (c_lst (c_acons (c_gcon T.c_END) c_anil)) (c_lst c_anil)) c_anil))))))))))))
theorem ok_q_first_values (T : Tx w K mg FD) : FnG P w K mg base 1 (He.fAd K ("first_values", none)) (FD 19) [] (spM (kk K) f_q_first_values) := by
  exact fn_okT T.F_q_first_values sc_q_first_values fun cdv A outer s H E m gu hr tk ps => (s_one (s_ret (c_dcN (own := [("reg", 0)]) rfl sc_q_first_values.nd (c_src (c_gcon T.c_REGISTERS)) (blkOk_by (by kernel_rfl)) (fun _ _ _ _ _ => (pg_name (i := 0) sc_q_first_values.nd rfl (by first | exact Or.inl rfl | exact Or.inr rfl))) (tg_var 0) (fun _ _ _ _ _ => pts_yes) (fun _ _ _ _ _ => (c_var 0)) (fun _ _ _ _ _ => (c_tup (c_acons c_str (c_acons (c_var 0) c_anil)))))))
theorem ok_q_first_stop (T : Tx w K mg FD) (G_q_Machine___init__ : FnG P w K mg base 1 (He.fAd K ("Machine", some "__init__")) (FD 6) ["self", "number", "base", "sp", "held", "words"] (spM (kk K) f_q_Machine___init__)) (G_q_Machine_told : FnG P w K mg base 1 (He.fAd K ("Machine", some "told")) (FD 17) ["self", "place"] (spM (kk K) f_q_Machine_told)) (G_q_first_values : FnG P w K mg base 1 (He.fAd K ("first_values", none)) (FD 19) [] (spM (kk K) f_q_first_values)) : FnG P w K mg base 3 (He.fAd K ("first_stop", none)) (FD 20) [] (spM (kk K) f_q_first_stop) := by
  exact fn_okT T.F_q_first_stop sc_q_first_stop fun cdv A outer s H E m gu hr tk ps => (s_one (s_ret (c_meth (c_make (k := kk K) (n := 3) (c := 0) T.mk_Machine G_q_Machine___init__ gu (hr.mono (by decide)) tk T.g_Machine T.B_q_Machine___init__ (c_acons c_int (c_acons c_int (c_acons c_int c_anil))) (k_cons (c_call0 G_q_first_values gu (hr.mono (by decide)) tk T.m_q_first_values T.F_q_first_values.kp T.B_q_first_values) (k_cons (c_dicN (d_cons c_int (c_gcon T.c_OUT) d_nil)) k_nil))) T.cls_Machine T.me_q_Machine_told G_q_Machine_told gu (hr.mono (by decide)) tk T.B_q_Machine_told (c_acons c_int c_anil))))
theorem ok_q_is_integer (T : Tx w K mg FD) : FnG P w K mg base 1 (He.fAd K ("is_integer", none)) (FD 21) ["thing", "least", "most"] (spM (kk K) f_q_is_integer) := by
  exact fn_okT T.F_q_is_integer sc_q_is_integer fun cdv A outer s H E m gu hr tk ps => (s_one (s_ret (c_and (c_callB f_isi T.b_isinstance (by decide +kernel) (c_acons (c_var 0) (c_acons (c_ty T.b_int (by decide +kernel)) c_anil))) (c_and (c_not (c_callB f_isi T.b_isinstance (by decide +kernel) (c_acons (c_var 0) (c_acons (c_ty T.b_bool (by decide +kernel)) c_anil)))) (c_one (c_chain o_le o_le (c_var 1) (c_var 0) (c_var 2)))))))
theorem ok_q_stop_at (T : Tx w K mg FD) (G_q_first_stop : FnG P w K mg base 3 (He.fAd K ("first_stop", none)) (FD 20) [] (spM (kk K) f_q_first_stop)) (G_q_is_integer : FnG P w K mg base 1 (He.fAd K ("is_integer", none)) (FD 21) ["thing", "least", "most"] (spM (kk K) f_q_is_integer)) (G_q_successors : FnG P w K mg base 5 (He.fAd K ("successors", none)) (FD 18) ["code", "stop"] (spM (kk K) f_q_successors)) : FnG P w K mg base 6 (He.fAd K ("stop_at", none)) (FD 22) ["code", "path"] (spM (kk K) f_q_stop_at) := by
  exact fn_okT T.F_q_stop_at sc_q_stop_at fun cdv A outer s H E m gu hr tk ps => (s_cons (s_if (c_tor (c_tnot (c_tval (c_callB f_isi T.b_isinstance (by decide +kernel) (c_acons (c_var 1) (c_acons (c_ty T.b_tuple (by decide +kernel)) c_anil))))) (c_tor1 (c_tcmp (o_eq hr.units) (c_callB f_len T.b_len (by decide +kernel) (c_acons (c_var 1) c_anil)) c_int))).pt (s_one s_bad) s_nil) (s_cons (s_if (c_tnot (c_tval (c_callG G_q_is_integer gu (hr.mono (by decide)) tk T.m_q_is_integer T.F_q_is_integer.kp T.B_q_is_integer (c_acons (c_idx (hu_of hr) (c_var 1) c_int) (c_acons c_int (c_acons c_int c_anil)))))) (s_one s_bad) s_nil) (s_cons (s_set 2 sc_q_stop_at.nd (c_call0 G_q_first_stop gu (hr.mono (by decide)) tk T.m_q_first_stop T.F_q_first_stop.kp T.B_q_first_stop)) (s_cons (s_for ps rfl (c_rng2 T.b_range (c_acons c_int (c_acons (c_callB f_len T.b_len (by decide +kernel) (c_acons (c_var 1) c_anil)) c_anil))) (g_of (pg_name (i := 3) sc_q_stop_at.nd rfl (by first | exact Or.inl rfl | exact Or.inr rfl)) (tg_var 3)) (s_cons (s_setLc (i := 4) (own := [("other", 5)]) rfl sc_q_stop_at.nd (sw_true rfl rfl rfl (by decide +kernel)) (c_src (c_idx (hu_of hr) (c_callG G_q_successors gu (hr.mono (by decide)) tk T.m_q_successors T.F_q_successors.kp T.B_q_successors (c_acons (c_var 0) (c_acons (c_var 2) c_anil))) c_int)) (blkOk_by (by kernel_rfl)) (fun _ _ _ _ _ => (pg_name (i := 5) sc_q_stop_at.nd rfl (by first | exact Or.inl rfl | exact Or.inr rfl))) (tg_var 5) (fun _ _ _ _ _ => (pts_one (c_tcmp (o_eq hr.units) (c_idx (hu_of hr) (c_var 5) c_int) (c_idx (hu_of hr) (c_var 1) (c_var 3))))) (fun _ _ _ _ _ => (c_var 5))) (s_cons (s_if (c_tor (c_tcmp (o_eq hr.units) (c_var 4) (c_lst c_anil)) (c_tor1 (c_tnot (c_tval (c_callG G_q_is_integer gu (hr.mono (by decide)) tk T.m_q_is_integer T.F_q_is_integer.kp T.B_q_is_integer (c_acons (c_idx (hu_of hr) (c_var 1) (c_var 3)) (c_acons c_int (c_acons (c_op o_sub (c_callB f_len T.b_len (by decide +kernel) (c_acons (c_var 0) c_anil)) c_int) c_anil)))))))).pt (s_one s_bad) s_nil) (s_one (s_set 2 sc_q_stop_at.nd (c_idx (hu_of hr) (c_var 4) c_int)))))) (s_one (s_ret (c_var 2)))))))
theorem ok_q_form_of (T : Tx w K mg FD) : FnG P w K mg base 1 (He.fAd K ("form_of", none)) (FD 23) ["word"] (spM (kk K) f_q_form_of) := by
  exact fn_okT T.F_q_form_of sc_q_form_of fun cdv A outer s H E m gu hr tk ps => (s_one (s_ret (c_kget T.m_FORMS T.tab_FORMS (c_var 0))))
theorem ok_q_is_register (T : Tx w K mg FD) : FnG P w K mg base 1 (He.fAd K ("is_register", none)) (FD 24) ["thing"] (spM (kk K) f_q_is_register) := by
  exact fn_okT T.F_q_is_register sc_q_is_register fun cdv A outer s H E m gu hr tk ps => (s_one (s_ret (c_and (c_callB f_isi T.b_isinstance (by decide +kernel) (c_acons (c_var 0) (c_acons (c_ty T.b_str (by decide +kernel)) c_anil))) (c_one (c_cmp o_in (c_var 0) (c_gcon T.c_REGISTERS))))))
theorem ok_q_is_basis (T : Tx w K mg FD) : FnG P w K mg base 1 (He.fAd K ("is_basis", none)) (FD 25) ["thing"] (spM (kk K) f_q_is_basis) := by
  exact fn_okT T.F_q_is_basis sc_q_is_basis fun cdv A outer s H E m gu hr tk ps => (s_one (s_ret (c_and (c_callB f_isi T.b_isinstance (by decide +kernel) (c_acons (c_var 0) (c_acons (c_ty T.b_str (by decide +kernel)) c_anil))) (c_one (c_or (c_cmp (o_eq hr.units) (c_var 0) (c_gcon T.c_STACK)) (c_one (c_cmp o_in (c_var 0) (c_gcon T.c_REGISTERS))))))))
theorem ok_q_is_name (T : Tx w K mg FD) : FnG P w K mg base 1 (He.fAd K ("is_name", none)) (FD 26) ["thing"] (spM (kk K) f_q_is_name) := by
  exact fn_okT T.F_q_is_name sc_q_is_name fun cdv A outer s H E m gu hr tk ps => (s_cons (s_if (c_tor (c_tnot (c_tval (c_callB f_isi T.b_isinstance (by decide +kernel) (c_acons (c_var 0) (c_acons (c_ty T.b_str (by decide +kernel)) c_anil))))) (c_tor1 (c_tnot (c_tchain o_le o_le c_int (c_callB f_len T.b_len (by decide +kernel) (c_acons (c_var 0) c_anil)) (c_gcon T.c_MOST_LETTERS))))).pt (s_one (s_ret c_bl)) s_nil) (s_one (s_ret (c_callB f_all T.b_all (by decide +kernel) (c_acons (c_lc (own := [("letter", 1)]) rfl sc_q_is_name.nd (c_src (c_var 0)) (blkOk_by (by kernel_rfl)) (fun _ _ _ _ _ => (pg_name (i := 1) sc_q_is_name.nd rfl (by first | exact Or.inl rfl | exact Or.inr rfl))) (tg_var 1) (fun _ _ _ _ _ => pts_yes) (fun _ _ _ _ _ => (c_cmp o_in (c_var 1) (c_gcon T.c_LETTERS)))) c_anil)))))
theorem ok_q_part_fits (T : Tx w K mg FD) (G_q_is_basis : FnG P w K mg base 1 (He.fAd K ("is_basis", none)) (FD 25) ["thing"] (spM (kk K) f_q_is_basis)) (G_q_is_integer : FnG P w K mg base 1 (He.fAd K ("is_integer", none)) (FD 21) ["thing", "least", "most"] (spM (kk K) f_q_is_integer)) (G_q_is_name : FnG P w K mg base 1 (He.fAd K ("is_name", none)) (FD 26) ["thing"] (spM (kk K) f_q_is_name)) (G_q_is_register : FnG P w K mg base 1 (He.fAd K ("is_register", none)) (FD 24) ["thing"] (spM (kk K) f_q_is_register)) : FnG P w K mg base 2 (He.fAd K ("part_fits", none)) (FD 27) ["part", "sort", "size"] (spM (kk K) f_q_part_fits) := by
  exact fn_okT T.F_q_part_fits sc_q_part_fits fun cdv A outer s H E m gu hr tk ps => (s_cons (s_if (c_tcmp (o_eq hr.units) (c_var 1) c_str) (s_one (s_ret (c_callG G_q_is_register gu (hr.mono (by decide)) tk T.m_q_is_register T.F_q_is_register.kp T.B_q_is_register (c_acons (c_var 0) c_anil)))) s_nil) (s_cons (s_if (c_tcmp (o_eq hr.units) (c_var 1) c_str) (s_one (s_ret (c_callG G_q_is_basis gu (hr.mono (by decide)) tk T.m_q_is_basis T.F_q_is_basis.kp T.B_q_is_basis (c_acons (c_var 0) c_anil)))) s_nil) (s_cons (s_if (c_tcmp (o_eq hr.units) (c_var 1) c_str) (s_one (s_ret (c_callG G_q_is_name gu (hr.mono (by decide)) tk T.m_q_is_name T.F_q_is_name.kp T.B_q_is_name (c_acons (c_var 0) c_anil)))) s_nil) (s_cons (s_if (c_tcmp (o_eq hr.units) (c_var 1) c_str) (s_one (s_ret (c_callG G_q_is_integer gu (hr.mono (by decide)) tk T.m_q_is_integer T.F_q_is_integer.kp T.B_q_is_integer (c_acons (c_var 0) (c_acons c_int (c_acons (c_op o_sub (c_var 2) c_int) c_anil)))))) s_nil) (s_one (s_ret (c_callG G_q_is_integer gu (hr.mono (by decide)) tk T.m_q_is_integer T.F_q_is_integer.kp T.B_q_is_integer (c_acons (c_var 0) (c_acons (c_if (c_tcmp (o_eq hr.units) (c_var 1) c_str) c_int (c_neg (c_gcon T.c_MOST_WORDS))) (c_acons (c_gcon T.c_MOST_WORDS) c_anil))))))))))
theorem ok_q_is_instruction (T : Tx w K mg FD) (G_q_form_of : FnG P w K mg base 1 (He.fAd K ("form_of", none)) (FD 23) ["word"] (spM (kk K) f_q_form_of)) (G_q_part_fits : FnG P w K mg base 2 (He.fAd K ("part_fits", none)) (FD 27) ["part", "sort", "size"] (spM (kk K) f_q_part_fits)) : FnG P w K mg base 3 (He.fAd K ("is_instruction", none)) (FD 28) ["thing", "size"] (spM (kk K) f_q_is_instruction) := by
  exact fn_okT T.F_q_is_instruction sc_q_is_instruction fun cdv A outer s H E m gu hr tk ps => (s_cons (s_if (c_tor (c_tnot (c_tval (c_callB f_isi T.b_isinstance (by decide +kernel) (c_acons (c_var 0) (c_acons (c_ty T.b_tuple (by decide +kernel)) c_anil))))) (c_tor (c_tcmp (o_eq hr.units) (c_callB f_len T.b_len (by decide +kernel) (c_acons (c_var 0) c_anil)) c_int) (c_tor1 (c_tnot (c_tval (c_callB f_isi T.b_isinstance (by decide +kernel) (c_acons (c_idx (hu_of hr) (c_var 0) c_int) (c_acons (c_ty T.b_str (by decide +kernel)) c_anil)))))))).pt (s_one (s_ret c_bl)) s_nil) (s_cons (s_set 2 sc_q_is_instruction.nd (c_callG G_q_form_of gu (hr.mono (by decide)) tk T.m_q_form_of T.F_q_form_of.kp T.B_q_form_of (c_acons (c_idx (hu_of hr) (c_var 0) c_int) c_anil))) (s_cons (s_if (c_tor (c_tcmp o_is (c_var 2) c_non) (c_tor1 (c_tcmp (o_ne hr.units) (c_callB f_len T.b_len (by decide +kernel) (c_acons (c_var 0) c_anil)) (c_op o_add (c_callB f_len T.b_len (by decide +kernel) (c_acons (c_var 2) c_anil)) c_int)))).pt (s_one (s_ret c_bl)) s_nil) (s_one (s_ret (c_callB f_all T.b_all (by decide +kernel) (c_acons (c_lc (own := [("part", 3), ("sort", 4)]) rfl sc_q_is_instruction.nd (c_zip T.b_zip (c_acons (c_cut (c_var 0) (c_osome c_int) c_onone) (c_acons (c_var 2) c_anil))) (blkOk_by (by kernel_rfl)) (fun _ _ _ _ _ => (pg_tup rfl (pgs_cons (pg_name (i := 3) sc_q_is_instruction.nd rfl (by first | exact Or.inl rfl | exact Or.inr rfl)) (pgs_cons (pg_name (i := 4) sc_q_is_instruction.nd rfl (by first | exact Or.inl rfl | exact Or.inr rfl)) pgs_nil)))) (tg_tup (tgs_cons (tg_var 3) (tgs_cons (tg_var 4) tgs_nil))) (fun _ _ _ _ _ => pts_yes) (fun _ _ _ _ _ => (c_callG G_q_part_fits gu (hr.mono (by decide)) takes0 T.m_q_part_fits T.F_q_part_fits.kp T.B_q_part_fits (c_acons (c_var 3) (c_acons (c_var 4) (c_acons (c_var 1) c_anil)))))) c_anil)))))))
theorem ok_q_need_code (T : Tx w K mg FD) (G_q_is_instruction : FnG P w K mg base 3 (He.fAd K ("is_instruction", none)) (FD 28) ["thing", "size"] (spM (kk K) f_q_is_instruction)) : FnG P w K mg base 4 (He.fAd K ("need_code", none)) (FD 29) ["thing"] (spM (kk K) f_q_need_code) := by
  exact fn_okT T.F_q_need_code sc_q_need_code fun cdv A outer s H E m gu hr tk ps => (s_cons (s_if (c_tor (c_tnot (c_tval (c_callB f_isi T.b_isinstance (by decide +kernel) (c_acons (c_var 0) (c_acons (c_ty T.b_tuple (by decide +kernel)) c_anil))))) (c_tor1 (c_tnot (c_tchain o_le o_le c_int (c_callB f_len T.b_len (by decide +kernel) (c_acons (c_var 0) c_anil)) (c_gcon T.c_MOST_CODE))))).pt (s_one s_bad) s_nil) (s_cons (s_for ps rfl (c_enum T.b_enumerate (c_acons (c_var 0) c_anil)) (g_of (pg_tup rfl (pgs_cons (pg_name (i := 1) sc_q_need_code.nd rfl (by first | exact Or.inl rfl | exact Or.inr rfl)) (pgs_cons (pg_name (i := 2) sc_q_need_code.nd rfl (by first | exact Or.inl rfl | exact Or.inr rfl)) pgs_nil))) (tg_tup (tgs_cons (tg_var 1) (tgs_cons (tg_var 2) tgs_nil)))) (s_one (s_if (c_tnot (c_tval (c_callG G_q_is_instruction gu (hr.mono (by decide)) tk T.m_q_is_instruction T.F_q_is_instruction.kp T.B_q_is_instruction (c_acons (c_var 2) (c_acons (c_callB f_len T.b_len (by decide +kernel) (c_acons (c_var 0) c_anil)) c_anil))))) (s_one s_bad) s_nil))) (s_one (s_ret (c_var 0)))))
theorem ok_q_run (T : Tx w K mg FD) (G_q_need_code : FnG P w K mg base 4 (He.fAd K ("need_code", none)) (FD 29) ["thing"] (spM (kk K) f_q_need_code)) (G_q_stop_at : FnG P w K mg base 6 (He.fAd K ("stop_at", none)) (FD 22) ["code", "path"] (spM (kk K) f_q_stop_at)) : FnG P w K mg base 7 (He.fAd K ("run", none)) (FD 30) ["code", "path"] (spM (kk K) f_q_run) := by
  exact fn_okT T.F_q_run sc_q_run fun cdv A outer s H E m gu hr tk ps => (s_one (s_ret (c_callG G_q_stop_at gu (hr.mono (by decide)) tk T.m_q_stop_at T.F_q_stop_at.kp T.B_q_stop_at (c_acons (c_callG G_q_need_code gu (hr.mono (by decide)) tk T.m_q_need_code T.F_q_need_code.kp T.B_q_need_code (c_acons (c_var 0) c_anil)) (c_acons (c_var 1) c_anil)))))
theorem ok_q_following (T : Tx w K mg FD) (G_q_run : FnG P w K mg base 7 (He.fAd K ("run", none)) (FD 30) ["code", "path"] (spM (kk K) f_q_run)) (G_q_successors : FnG P w K mg base 5 (He.fAd K ("successors", none)) (FD 18) ["code", "stop"] (spM (kk K) f_q_successors)) : FnG P w K mg base 8 (He.fAd K ("following", none)) (FD 31) ["code", "path"] (spM (kk K) f_q_following) := by
  exact fn_okT T.F_q_following sc_q_following fun cdv A outer s H E m gu hr tk ps => (s_one (s_ret (c_callTy f_tuple T.b_tuple (by decide +kernel) (c_acons (c_lc (own := [("stop", 2)]) rfl sc_q_following.nd (c_src (c_idx (hu_of hr) (c_callG G_q_successors gu (hr.mono (by decide)) tk T.m_q_successors T.F_q_successors.kp T.B_q_successors (c_acons (c_var 0) (c_acons (c_callG G_q_run gu (hr.mono (by decide)) tk T.m_q_run T.F_q_run.kp T.B_q_run (c_acons (c_var 0) (c_acons (c_var 1) c_anil))) c_anil))) c_int)) (blkOk_by (by kernel_rfl)) (fun _ _ _ _ _ => (pg_name (i := 2) sc_q_following.nd rfl (by first | exact Or.inl rfl | exact Or.inr rfl))) (tg_var 2) (fun _ _ _ _ _ => pts_yes) (fun _ _ _ _ _ => (c_idx (hu_of hr) (c_var 2) c_int))) c_anil))))
theorem ok_q_breaking (T : Tx w K mg FD) (G_q_run : FnG P w K mg base 7 (He.fAd K ("run", none)) (FD 30) ["code", "path"] (spM (kk K) f_q_run)) (G_q_successors : FnG P w K mg base 5 (He.fAd K ("successors", none)) (FD 18) ["code", "stop"] (spM (kk K) f_q_successors)) : FnG P w K mg base 8 (He.fAd K ("breaking", none)) (FD 32) ["code", "path"] (spM (kk K) f_q_breaking) := by
  exact fn_okT T.F_q_breaking sc_q_breaking fun cdv A outer s H E m gu hr tk ps => (s_one (s_ret (c_callTy f_tuple T.b_tuple (by decide +kernel) (c_acons (c_callB (f_sorted rfl) T.b_sorted (by decide +kernel) (c_acons (c_idx (hu_of hr) (c_callG G_q_successors gu (hr.mono (by decide)) tk T.m_q_successors T.F_q_successors.kp T.B_q_successors (c_acons (c_var 0) (c_acons (c_callG G_q_run gu (hr.mono (by decide)) tk T.m_q_run T.F_q_run.kp T.B_q_run (c_acons (c_var 0) (c_acons (c_var 1) c_anil))) c_anil))) c_int) c_anil)) c_anil))))
theorem ok_q_law_1 (T : Tx w K mg FD) (G_p_law_begin : FnG P w K mg base 1 (He.fAd K ("_law_begin", none)) (FD 0) ["script"] (spM (kk K) f_p_law_begin)) (G_p_law_draw : FnG P w K mg base 2 (He.fAd K ("_law_draw", none)) (FD 2) ["state", "many"] (spM (kk K) f_p_law_draw)) (G_p_law_ends : FnG P w K mg base 1 (He.fAd K ("_law_ends", none)) (FD 5) ["one", "n"] (spM (kk K) f_p_law_ends)) (G_p_law_of : FnG P w K mg base 3 (He.fAd K ("_law_of", none)) (FD 3) ["state", "some"] (spM (kk K) f_p_law_of)) (G_p_law_rows_1 : FnG P w K mg base 1 (He.fAd K ("_law_rows", none)) (FD 4) ["one", "two", "n"] (spM (kk K) f_p_law_rows_1)) (G_q_breaking : FnG P w K mg base 8 (He.fAd K ("breaking", none)) (FD 32) ["code", "path"] (spM (kk K) f_q_breaking)) (G_q_following : FnG P w K mg base 8 (He.fAd K ("following", none)) (FD 31) ["code", "path"] (spM (kk K) f_q_following)) : FnG P w K mg base 9 (He.fAd K ("law", none)) (FD 33) ["script"] (spM (kk K) f_q_law_1) := by
  exact fn_okT T.F_q_law_1 sc_q_law_1 fun cdv A outer s H E m gu hr tk ps => (s_cons (s_set 1 sc_q_law_1.nd (c_callG G_p_law_begin gu (hr.mono (by decide)) tk T.m_p_law_begin T.F_p_law_begin.kp T.B_p_law_begin (c_acons (c_var 0) c_anil))) (s_cons (s_for ps rfl (c_rng1 T.b_range (c_acons (c_op o_add c_int (c_callB f_min T.b_min (by decide +kernel) (c_acons c_int (c_acons (c_callB f_len T.b_len (by decide +kernel) (c_acons (c_var 0) c_anil)) c_anil)))) c_anil)) (g_of (pg_name (i := 2) sc_q_law_1.nd rfl (by first | exact Or.inl rfl | exact Or.inr rfl)) (tg_var 2)) (s_cons (s_asg (c_tup (c_acons (c_callG G_p_law_of gu (hr.mono (by decide)) tk T.m_p_law_of T.F_p_law_of.kp T.B_p_law_of (c_acons (c_var 1) (c_acons c_str c_anil))) (c_acons (c_op o_add c_int (c_callG G_p_law_draw gu (hr.mono (by decide)) tk T.m_p_law_draw T.F_p_law_draw.kp T.B_p_law_draw (c_acons (c_var 1) (c_acons c_int c_anil)))) c_anil))) (g_of (pg_tup rfl (pgs_cons (pg_name (i := 4) sc_q_law_1.nd rfl (by first | exact Or.inl rfl | exact Or.inr rfl)) (pgs_cons (pg_name (i := 5) sc_q_law_1.nd rfl (by first | exact Or.inl rfl | exact Or.inr rfl)) pgs_nil))) (tg_tup (tgs_cons (tg_var 4) (tgs_cons (tg_var 5) tgs_nil))))) (s_cons (s_set 3 sc_q_law_1.nd (c_callG G_p_law_of gu (hr.mono (by decide)) tk T.m_p_law_of T.F_p_law_of.kp T.B_p_law_of (c_acons (c_var 1) (c_acons (c_lc (own := [("other", 13)]) rfl sc_q_law_1.nd (c_src c_str) (blkOk_by (by kernel_rfl)) (fun _ _ _ _ _ => (pg_name (i := 13) sc_q_law_1.nd rfl (by first | exact Or.inl rfl | exact Or.inr rfl))) (tg_var 13) (fun _ _ _ _ _ => (pts_one (c_tcmp (o_ne hr.units) (c_var 13) (c_var 4)))) (fun _ _ _ _ _ => (c_var 13))) c_anil)))) (s_cons (s_for ps rfl (c_src (c_callG G_p_law_rows_1 gu (hr.mono (by decide)) tk T.m_p_law_rows_1 T.F_p_law_rows_1.kp T.B_p_law_rows_1 (c_acons (c_var 4) (c_acons (c_var 3) (c_acons (c_var 5) c_anil))))) (g_of (pg_tup rfl (pgs_cons (pg_name (i := 6) sc_q_law_1.nd rfl (by first | exact Or.inl rfl | exact Or.inr rfl)) (pgs_cons (pg_name (i := 7) sc_q_law_1.nd rfl (by first | exact Or.inl rfl | exact Or.inr rfl)) pgs_nil))) (tg_tup (tgs_cons (tg_var 6) (tgs_cons (tg_var 7) tgs_nil)))) (s_cons (s_par 12 9 rfl sc_q_law_1.nd (c_acons (c_callTy f_tuple T.b_tuple (by decide +kernel) (c_acons (c_op o_add (c_var 6) (c_lst (c_acons (c_tup (c_acons c_str c_anil)) c_anil))) c_anil)) (c_acons (c_tupR rfl T.b_tuple T.b_range (c_callB f_len T.b_len (by decide +kernel) (c_acons (c_var 6) c_anil))) c_anil))) (s_cons (s_set 8 sc_q_law_1.nd (c_if (c_tcmp (o_eq hr.units) (c_var 7) c_str) (c_lst (c_acons (c_tup (c_acons (c_callB f_len T.b_len (by decide +kernel) (c_acons (c_var 6) c_anil)) c_anil)) (c_acons (c_tup c_anil) c_anil))) (c_lst (c_acons (c_tup c_anil) (c_acons (c_tup (c_acons (c_var 7) c_anil)) c_anil))))) (s_one (s_if (c_tcmp (o_ne hr.units) (c_callB (f_repr gu hr.units) T.b_repr (by decide +kernel) (c_acons (c_lst (c_acons (c_callG G_q_following gu (hr.mono (by decide)) tk T.m_q_following T.F_q_following.kp T.B_q_following (c_acons (c_var 12) (c_acons (c_var 9) c_anil))) (c_acons (c_callG G_q_breaking gu (hr.mono (by decide)) tk T.m_q_breaking T.F_q_breaking.kp T.B_q_breaking (c_acons (c_var 12) (c_acons (c_var 9) c_anil))) c_anil))) c_anil)) (c_callB (f_repr gu hr.units) T.b_repr (by decide +kernel) (c_acons (c_var 8) c_anil))) (s_one (s_ret c_bl)) s_nil))))) (s_one (s_for ps rfl (c_src (c_callG G_p_law_ends gu (hr.mono (by decide)) tk T.m_p_law_ends T.F_p_law_ends.kp T.B_p_law_ends (c_acons (c_var 4) (c_acons (c_var 5) c_anil)))) (g_of (pg_tup rfl (pgs_cons (pg_name (i := 6) sc_q_law_1.nd rfl (by first | exact Or.inl rfl | exact Or.inr rfl)) (pgs_cons (pg_name (i := 9) sc_q_law_1.nd rfl (by first | exact Or.inl rfl | exact Or.inr rfl)) (pgs_cons (pg_name (i := 10) sc_q_law_1.nd rfl (by first | exact Or.inl rfl | exact Or.inr rfl)) (pgs_cons (pg_name (i := 11) sc_q_law_1.nd rfl (by first | exact Or.inl rfl | exact Or.inr rfl)) pgs_nil))))) (tg_tup (tgs_cons (tg_var 6) (tgs_cons (tg_var 9) (tgs_cons (tg_var 10) (tgs_cons (tg_var 11) tgs_nil)))))) (s_one (s_if (c_tcmp (o_ne hr.units) (c_callB (f_repr gu hr.units) T.b_repr (by decide +kernel) (c_acons (c_lst (c_acons (c_callG G_q_following gu (hr.mono (by decide)) tk T.m_q_following T.F_q_following.kp T.B_q_following (c_acons (c_callTy f_tuple T.b_tuple (by decide +kernel) (c_acons (c_var 6) c_anil)) (c_acons (c_var 9) c_anil))) (c_acons (c_callG G_q_breaking gu (hr.mono (by decide)) tk T.m_q_breaking T.F_q_breaking.kp T.B_q_breaking (c_acons (c_callTy f_tuple T.b_tuple (by decide +kernel) (c_acons (c_var 6) c_anil)) (c_acons (c_var 9) c_anil))) c_anil))) c_anil)) (c_callB (f_repr gu hr.units) T.b_repr (by decide +kernel) (c_acons (c_lst (c_acons (c_var 10) (c_acons (c_var 11) c_anil))) c_anil))) (s_one (s_ret c_bl)) s_nil)))))))) (s_one (s_ret c_bl))))
theorem ok_all (T : Tx w K mg FD) : FnG P w K mg base 9 (He.fAd K ("law", none)) (FD 33) ["script"] (spM (kk K) f_q_law_1) := by
  have g_p_law_begin := ok_p_law_begin (P := P) (base := base) T
  have g_p_law_mixed := ok_p_law_mixed (P := P) (base := base) T
  have g_p_law_draw := ok_p_law_draw (P := P) (base := base) T g_p_law_mixed
  have g_p_law_of := ok_p_law_of (P := P) (base := base) T g_p_law_draw
  have g_p_law_rows_1 := ok_p_law_rows_1 (P := P) (base := base) T
  have g_p_law_ends := ok_p_law_ends (P := P) (base := base) T
  have g_q_Machine___init__ := ok_q_Machine___init__ (P := P) (base := base) T
  have g_q_Machine_is_on := ok_q_Machine_is_on (P := P) (base := base) T
  have g_q_Machine_move_sp := ok_q_Machine_move_sp (P := P) (base := base) T g_q_Machine_is_on
  have g_q_Machine_address := ok_q_Machine_address (P := P) (base := base) T
  have g_q_Machine_set_word := ok_q_Machine_set_word (P := P) (base := base) T
  have g_q_Machine_do_stack := ok_q_Machine_do_stack (P := P) (base := base) T g_q_Machine_address g_q_Machine_move_sp g_q_Machine_set_word
  have g_q_Machine_do_memory := ok_q_Machine_do_memory (P := P) (base := base) T g_q_Machine_address g_q_Machine_is_on g_q_Machine_set_word
  have g_q_Machine_forget_below := ok_q_Machine_forget_below (P := P) (base := base) T
  have g_q_Machine_forget := ok_q_Machine_forget (P := P) (base := base) T g_q_Machine_forget_below
  have g_q_Machine_do := ok_q_Machine_do (P := P) (base := base) T g_q_Machine_do_memory g_q_Machine_do_stack g_q_Machine_forget
  have g_q_next_places := ok_q_next_places (P := P) (base := base) T
  have g_q_Machine_told := ok_q_Machine_told (P := P) (base := base) T
  have g_q_successors := ok_q_successors (P := P) (base := base) T g_q_Machine___init__ g_q_Machine_do g_q_Machine_told g_q_next_places
  have g_q_first_values := ok_q_first_values (P := P) (base := base) T
  have g_q_first_stop := ok_q_first_stop (P := P) (base := base) T g_q_Machine___init__ g_q_Machine_told g_q_first_values
  have g_q_is_integer := ok_q_is_integer (P := P) (base := base) T
  have g_q_stop_at := ok_q_stop_at (P := P) (base := base) T g_q_first_stop g_q_is_integer g_q_successors
  have g_q_form_of := ok_q_form_of (P := P) (base := base) T
  have g_q_is_register := ok_q_is_register (P := P) (base := base) T
  have g_q_is_basis := ok_q_is_basis (P := P) (base := base) T
  have g_q_is_name := ok_q_is_name (P := P) (base := base) T
  have g_q_part_fits := ok_q_part_fits (P := P) (base := base) T g_q_is_basis g_q_is_integer g_q_is_name g_q_is_register
  have g_q_is_instruction := ok_q_is_instruction (P := P) (base := base) T g_q_form_of g_q_part_fits
  have g_q_need_code := ok_q_need_code (P := P) (base := base) T g_q_is_instruction
  have g_q_run := ok_q_run (P := P) (base := base) T g_q_need_code g_q_stop_at
  have g_q_following := ok_q_following (P := P) (base := base) T g_q_run g_q_successors
  have g_q_breaking := ok_q_breaking (P := P) (base := base) T g_q_run g_q_successors
  have g_q_law_1 := ok_q_law_1 (P := P) (base := base) T g_p_law_begin g_p_law_draw g_p_law_ends g_p_law_of g_p_law_rows_1 g_q_breaking g_q_following
  exact g_q_law_1
end
def fns : List He.DefD := [dS ("_law_begin", none) "_law_begin" "_law_begin" st_p_law_begin, dS ("_law_mixed", none) "_law_mixed" "_law_mixed" st_p_law_mixed, dS ("_law_draw", none) "_law_draw" "_law_draw" st_p_law_draw, dS ("_law_of", none) "_law_of" "_law_of" st_p_law_of, dS ("_law_rows", none) "_law_rows" "_law_rows" st_p_law_rows_1, dS ("_law_ends", none) "_law_ends" "_law_ends" st_p_law_ends, dS ("Machine", some "__init__") "__init__" "Machine.__init__" st_q_Machine___init__, dS ("Machine", some "is_on") "is_on" "Machine.is_on" st_q_Machine_is_on, dS ("Machine", some "move_sp") "move_sp" "Machine.move_sp" st_q_Machine_move_sp, dS ("Machine", some "address") "address" "Machine.address" st_q_Machine_address, dS ("Machine", some "set_word") "set_word" "Machine.set_word" st_q_Machine_set_word, dS ("Machine", some "do_stack") "do_stack" "Machine.do_stack" st_q_Machine_do_stack, dS ("Machine", some "do_memory") "do_memory" "Machine.do_memory" st_q_Machine_do_memory, dS ("Machine", some "forget_below") "forget_below" "Machine.forget_below" st_q_Machine_forget_below, dS ("Machine", some "forget") "forget" "Machine.forget" st_q_Machine_forget, dS ("Machine", some "do") "do" "Machine.do" st_q_Machine_do, dS ("next_places", none) "next_places" "next_places" st_q_next_places, dS ("Machine", some "told") "told" "Machine.told" st_q_Machine_told, dS ("successors", none) "successors" "successors" st_q_successors, dS ("first_values", none) "first_values" "first_values" st_q_first_values, dS ("first_stop", none) "first_stop" "first_stop" st_q_first_stop, dS ("is_integer", none) "is_integer" "is_integer" st_q_is_integer, dS ("stop_at", none) "stop_at" "stop_at" st_q_stop_at, dS ("form_of", none) "form_of" "form_of" st_q_form_of, dS ("is_register", none) "is_register" "is_register" st_q_is_register, dS ("is_basis", none) "is_basis" "is_basis" st_q_is_basis, dS ("is_name", none) "is_name" "is_name" st_q_is_name, dS ("part_fits", none) "part_fits" "part_fits" st_q_part_fits, dS ("is_instruction", none) "is_instruction" "is_instruction" st_q_is_instruction, dS ("need_code", none) "need_code" "need_code" st_q_need_code, dS ("run", none) "run" "run" st_q_run, dS ("following", none) "following" "following" st_q_following, dS ("breaking", none) "breaking" "breaking" st_q_breaking, dS ("law", none) "law" "law" st_q_law_1]
def fas : List He.Fa := [.free "all", .free "bool", .free "dict", .free "enumerate", .free "int", .free "isinstance", .free "len", .free "list", .free "min", .free "range", .free "repr", .free "set", .free "sorted", .free "str", .free "tuple", .free "zip", .glo "FORMS", .cls "Machine", .mkr "Machine", .glo "Machine", .noat "Machine" "base", .noat "Machine" "held", .noat "Machine" "number", .noat "Machine" "sp", .noat "Machine" "words", .glo "_law_begin", .glo "_law_mixed", .glo "_law_draw", .glo "_law_of", .glo "_law_rows", .glo "_law_ends", .meth "Machine" "is_on", .meth "Machine" "move_sp", .meth "Machine" "address", .meth "Machine" "set_word", .meth "Machine" "do_stack", .meth "Machine" "do_memory", .meth "Machine" "forget_below", .meth "Machine" "forget", .meth "Machine" "do", .glo "next_places", .meth "Machine" "told", .glo "successors", .glo "first_values", .glo "first_stop", .glo "is_integer", .glo "stop_at", .glo "form_of", .glo "is_register", .glo "is_basis", .glo "is_name", .glo "part_fits", .glo "is_instruction", .glo "need_code", .glo "run", .glo "following", .glo "breaking", .glo "law"]
def tbs : List He.Tab := [(fun K => He.ga K "FORMS", tab_FORMS.map (·.1))]
def exs (K : PySem.W.Frag) : Bool := conK K "ANY" v_ANY && (conK K "END" v_END && (conK K "GOES_ON" v_GOES_ON && (conK K "LETTERS" v_LETTERS && (conK K "MOST_CODE" v_MOST_CODE && (conK K "MOST_LETTERS" v_MOST_LETTERS && (conK K "MOST_WORDS" v_MOST_WORDS && (conK K "OFF_STACK" v_OFF_STACK && (conK K "OUT" v_OUT && (conK K "REGISTERS" v_REGISTERS && (conK K "RETURN" v_RETURN && (conK K "SCRATCH" v_SCRATCH && (conK K "STACK" v_STACK && (conK K "WILD" v_WILD && (tabAt K "FORMS" tab_FORMS))))))))))))))
theorem tx_of {w : World} {K : PySem.W.Frag} {h : Heap} {mg : Str → Option Value} (X : K.In h) (G : h.Ns mainGlobals mg) (c : He.SaysT fas fns tbs w K) (e : exs K = true) : ∃ FD, Tx w K mg FD := by
  unfold exs at e
  obtain ⟨x0, e1⟩ := Bool.and_eq_true_iff.mp e
  obtain ⟨x1, e2⟩ := Bool.and_eq_true_iff.mp e1
  obtain ⟨x2, e3⟩ := Bool.and_eq_true_iff.mp e2
  obtain ⟨x3, e4⟩ := Bool.and_eq_true_iff.mp e3
  obtain ⟨x4, e5⟩ := Bool.and_eq_true_iff.mp e4
  obtain ⟨x5, e6⟩ := Bool.and_eq_true_iff.mp e5
  obtain ⟨x6, e7⟩ := Bool.and_eq_true_iff.mp e6
  obtain ⟨x7, e8⟩ := Bool.and_eq_true_iff.mp e7
  obtain ⟨x8, e9⟩ := Bool.and_eq_true_iff.mp e8
  obtain ⟨x9, e10⟩ := Bool.and_eq_true_iff.mp e9
  obtain ⟨x10, e11⟩ := Bool.and_eq_true_iff.mp e10
  obtain ⟨x11, e12⟩ := Bool.and_eq_true_iff.mp e11
  obtain ⟨x12, e13⟩ := Bool.and_eq_true_iff.mp e12
  obtain ⟨x13, e14⟩ := Bool.and_eq_true_iff.mp e13
  have x14 := e14
  obtain ⟨fd0, D0⟩ := c.d.def_ 0 (d := dS ("_law_begin", none) "_law_begin" "_law_begin" st_p_law_begin) rfl
  have F0 : L2.Fun K "_law_begin" "_law_begin" st_p_law_begin (He.fAd K ("_law_begin", none)) fd0 := funD_fun (st := st_p_law_begin) D0
  obtain ⟨fd1, D1⟩ := c.d.def_ 1 (d := dS ("_law_mixed", none) "_law_mixed" "_law_mixed" st_p_law_mixed) rfl
  have F1 : L2.Fun K "_law_mixed" "_law_mixed" st_p_law_mixed (He.fAd K ("_law_mixed", none)) fd1 := funD_fun (st := st_p_law_mixed) D1
  obtain ⟨fd2, D2⟩ := c.d.def_ 2 (d := dS ("_law_draw", none) "_law_draw" "_law_draw" st_p_law_draw) rfl
  have F2 : L2.Fun K "_law_draw" "_law_draw" st_p_law_draw (He.fAd K ("_law_draw", none)) fd2 := funD_fun (st := st_p_law_draw) D2
  obtain ⟨fd3, D3⟩ := c.d.def_ 3 (d := dS ("_law_of", none) "_law_of" "_law_of" st_p_law_of) rfl
  have F3 : L2.Fun K "_law_of" "_law_of" st_p_law_of (He.fAd K ("_law_of", none)) fd3 := funD_fun (st := st_p_law_of) D3
  obtain ⟨fd4, D4⟩ := c.d.def_ 4 (d := dS ("_law_rows", none) "_law_rows" "_law_rows" st_p_law_rows_1) rfl
  have F4 : L2.Fun K "_law_rows" "_law_rows" st_p_law_rows_1 (He.fAd K ("_law_rows", none)) fd4 := funD_fun (st := st_p_law_rows_1) D4
  obtain ⟨fd5, D5⟩ := c.d.def_ 5 (d := dS ("_law_ends", none) "_law_ends" "_law_ends" st_p_law_ends) rfl
  have F5 : L2.Fun K "_law_ends" "_law_ends" st_p_law_ends (He.fAd K ("_law_ends", none)) fd5 := funD_fun (st := st_p_law_ends) D5
  obtain ⟨fd6, D6⟩ := c.d.def_ 6 (d := dS ("Machine", some "__init__") "__init__" "Machine.__init__" st_q_Machine___init__) rfl
  have F6 : L2.Fun K "__init__" "Machine.__init__" st_q_Machine___init__ (He.fAd K ("Machine", some "__init__")) fd6 := funD_fun (st := st_q_Machine___init__) D6
  obtain ⟨fd7, D7⟩ := c.d.def_ 7 (d := dS ("Machine", some "is_on") "is_on" "Machine.is_on" st_q_Machine_is_on) rfl
  have F7 : L2.Fun K "is_on" "Machine.is_on" st_q_Machine_is_on (He.fAd K ("Machine", some "is_on")) fd7 := funD_fun (st := st_q_Machine_is_on) D7
  obtain ⟨fd8, D8⟩ := c.d.def_ 8 (d := dS ("Machine", some "move_sp") "move_sp" "Machine.move_sp" st_q_Machine_move_sp) rfl
  have F8 : L2.Fun K "move_sp" "Machine.move_sp" st_q_Machine_move_sp (He.fAd K ("Machine", some "move_sp")) fd8 := funD_fun (st := st_q_Machine_move_sp) D8
  obtain ⟨fd9, D9⟩ := c.d.def_ 9 (d := dS ("Machine", some "address") "address" "Machine.address" st_q_Machine_address) rfl
  have F9 : L2.Fun K "address" "Machine.address" st_q_Machine_address (He.fAd K ("Machine", some "address")) fd9 := funD_fun (st := st_q_Machine_address) D9
  obtain ⟨fd10, D10⟩ := c.d.def_ 10 (d := dS ("Machine", some "set_word") "set_word" "Machine.set_word" st_q_Machine_set_word) rfl
  have F10 : L2.Fun K "set_word" "Machine.set_word" st_q_Machine_set_word (He.fAd K ("Machine", some "set_word")) fd10 := funD_fun (st := st_q_Machine_set_word) D10
  obtain ⟨fd11, D11⟩ := c.d.def_ 11 (d := dS ("Machine", some "do_stack") "do_stack" "Machine.do_stack" st_q_Machine_do_stack) rfl
  have F11 : L2.Fun K "do_stack" "Machine.do_stack" st_q_Machine_do_stack (He.fAd K ("Machine", some "do_stack")) fd11 := funD_fun (st := st_q_Machine_do_stack) D11
  obtain ⟨fd12, D12⟩ := c.d.def_ 12 (d := dS ("Machine", some "do_memory") "do_memory" "Machine.do_memory" st_q_Machine_do_memory) rfl
  have F12 : L2.Fun K "do_memory" "Machine.do_memory" st_q_Machine_do_memory (He.fAd K ("Machine", some "do_memory")) fd12 := funD_fun (st := st_q_Machine_do_memory) D12
  obtain ⟨fd13, D13⟩ := c.d.def_ 13 (d := dS ("Machine", some "forget_below") "forget_below" "Machine.forget_below" st_q_Machine_forget_below) rfl
  have F13 : L2.Fun K "forget_below" "Machine.forget_below" st_q_Machine_forget_below (He.fAd K ("Machine", some "forget_below")) fd13 := funD_fun (st := st_q_Machine_forget_below) D13
  obtain ⟨fd14, D14⟩ := c.d.def_ 14 (d := dS ("Machine", some "forget") "forget" "Machine.forget" st_q_Machine_forget) rfl
  have F14 : L2.Fun K "forget" "Machine.forget" st_q_Machine_forget (He.fAd K ("Machine", some "forget")) fd14 := funD_fun (st := st_q_Machine_forget) D14
  obtain ⟨fd15, D15⟩ := c.d.def_ 15 (d := dS ("Machine", some "do") "do" "Machine.do" st_q_Machine_do) rfl
  have F15 : L2.Fun K "do" "Machine.do" st_q_Machine_do (He.fAd K ("Machine", some "do")) fd15 := funD_fun (st := st_q_Machine_do) D15
  obtain ⟨fd16, D16⟩ := c.d.def_ 16 (d := dS ("next_places", none) "next_places" "next_places" st_q_next_places) rfl
  have F16 : L2.Fun K "next_places" "next_places" st_q_next_places (He.fAd K ("next_places", none)) fd16 := funD_fun (st := st_q_next_places) D16
  obtain ⟨fd17, D17⟩ := c.d.def_ 17 (d := dS ("Machine", some "told") "told" "Machine.told" st_q_Machine_told) rfl
  have F17 : L2.Fun K "told" "Machine.told" st_q_Machine_told (He.fAd K ("Machine", some "told")) fd17 := funD_fun (st := st_q_Machine_told) D17
  obtain ⟨fd18, D18⟩ := c.d.def_ 18 (d := dS ("successors", none) "successors" "successors" st_q_successors) rfl
  have F18 : L2.Fun K "successors" "successors" st_q_successors (He.fAd K ("successors", none)) fd18 := funD_fun (st := st_q_successors) D18
  obtain ⟨fd19, D19⟩ := c.d.def_ 19 (d := dS ("first_values", none) "first_values" "first_values" st_q_first_values) rfl
  have F19 : L2.Fun K "first_values" "first_values" st_q_first_values (He.fAd K ("first_values", none)) fd19 := funD_fun (st := st_q_first_values) D19
  obtain ⟨fd20, D20⟩ := c.d.def_ 20 (d := dS ("first_stop", none) "first_stop" "first_stop" st_q_first_stop) rfl
  have F20 : L2.Fun K "first_stop" "first_stop" st_q_first_stop (He.fAd K ("first_stop", none)) fd20 := funD_fun (st := st_q_first_stop) D20
  obtain ⟨fd21, D21⟩ := c.d.def_ 21 (d := dS ("is_integer", none) "is_integer" "is_integer" st_q_is_integer) rfl
  have F21 : L2.Fun K "is_integer" "is_integer" st_q_is_integer (He.fAd K ("is_integer", none)) fd21 := funD_fun (st := st_q_is_integer) D21
  obtain ⟨fd22, D22⟩ := c.d.def_ 22 (d := dS ("stop_at", none) "stop_at" "stop_at" st_q_stop_at) rfl
  have F22 : L2.Fun K "stop_at" "stop_at" st_q_stop_at (He.fAd K ("stop_at", none)) fd22 := funD_fun (st := st_q_stop_at) D22
  obtain ⟨fd23, D23⟩ := c.d.def_ 23 (d := dS ("form_of", none) "form_of" "form_of" st_q_form_of) rfl
  have F23 : L2.Fun K "form_of" "form_of" st_q_form_of (He.fAd K ("form_of", none)) fd23 := funD_fun (st := st_q_form_of) D23
  obtain ⟨fd24, D24⟩ := c.d.def_ 24 (d := dS ("is_register", none) "is_register" "is_register" st_q_is_register) rfl
  have F24 : L2.Fun K "is_register" "is_register" st_q_is_register (He.fAd K ("is_register", none)) fd24 := funD_fun (st := st_q_is_register) D24
  obtain ⟨fd25, D25⟩ := c.d.def_ 25 (d := dS ("is_basis", none) "is_basis" "is_basis" st_q_is_basis) rfl
  have F25 : L2.Fun K "is_basis" "is_basis" st_q_is_basis (He.fAd K ("is_basis", none)) fd25 := funD_fun (st := st_q_is_basis) D25
  obtain ⟨fd26, D26⟩ := c.d.def_ 26 (d := dS ("is_name", none) "is_name" "is_name" st_q_is_name) rfl
  have F26 : L2.Fun K "is_name" "is_name" st_q_is_name (He.fAd K ("is_name", none)) fd26 := funD_fun (st := st_q_is_name) D26
  obtain ⟨fd27, D27⟩ := c.d.def_ 27 (d := dS ("part_fits", none) "part_fits" "part_fits" st_q_part_fits) rfl
  have F27 : L2.Fun K "part_fits" "part_fits" st_q_part_fits (He.fAd K ("part_fits", none)) fd27 := funD_fun (st := st_q_part_fits) D27
  obtain ⟨fd28, D28⟩ := c.d.def_ 28 (d := dS ("is_instruction", none) "is_instruction" "is_instruction" st_q_is_instruction) rfl
  have F28 : L2.Fun K "is_instruction" "is_instruction" st_q_is_instruction (He.fAd K ("is_instruction", none)) fd28 := funD_fun (st := st_q_is_instruction) D28
  obtain ⟨fd29, D29⟩ := c.d.def_ 29 (d := dS ("need_code", none) "need_code" "need_code" st_q_need_code) rfl
  have F29 : L2.Fun K "need_code" "need_code" st_q_need_code (He.fAd K ("need_code", none)) fd29 := funD_fun (st := st_q_need_code) D29
  obtain ⟨fd30, D30⟩ := c.d.def_ 30 (d := dS ("run", none) "run" "run" st_q_run) rfl
  have F30 : L2.Fun K "run" "run" st_q_run (He.fAd K ("run", none)) fd30 := funD_fun (st := st_q_run) D30
  obtain ⟨fd31, D31⟩ := c.d.def_ 31 (d := dS ("following", none) "following" "following" st_q_following) rfl
  have F31 : L2.Fun K "following" "following" st_q_following (He.fAd K ("following", none)) fd31 := funD_fun (st := st_q_following) D31
  obtain ⟨fd32, D32⟩ := c.d.def_ 32 (d := dS ("breaking", none) "breaking" "breaking" st_q_breaking) rfl
  have F32 : L2.Fun K "breaking" "breaking" st_q_breaking (He.fAd K ("breaking", none)) fd32 := funD_fun (st := st_q_breaking) D32
  obtain ⟨fd33, D33⟩ := c.d.def_ 33 (d := dS ("law", none) "law" "law" st_q_law_1) rfl
  have F33 : L2.Fun K "law" "law" st_q_law_1 (He.fAd K ("law", none)) fd33 := funD_fun (st := st_q_law_1) D33
  refine ⟨fun i => [fd0, fd1, fd2, fd3, fd4, fd5, fd6, fd7, fd8, fd9, fd10, fd11, fd12, fd13, fd14, fd15, fd16, fd17, fd18, fd19, fd20, fd21, fd22, fd23, fd24, fd25, fd26, fd27, fd28, fd29, fd30, fd31, fd32, fd33].getD i fd0, ?_⟩
  exact {
    b_all := He.free_ok X G (c.d.fact 0 (f := .free "all") rfl)
    b_bool := He.free_ok X G (c.d.fact 1 (f := .free "bool") rfl)
    b_dict := He.free_ok X G (c.d.fact 2 (f := .free "dict") rfl)
    b_enumerate := He.free_ok X G (c.d.fact 3 (f := .free "enumerate") rfl)
    b_int := He.free_ok X G (c.d.fact 4 (f := .free "int") rfl)
    b_isinstance := He.free_ok X G (c.d.fact 5 (f := .free "isinstance") rfl)
    b_len := He.free_ok X G (c.d.fact 6 (f := .free "len") rfl)
    b_list := He.free_ok X G (c.d.fact 7 (f := .free "list") rfl)
    b_min := He.free_ok X G (c.d.fact 8 (f := .free "min") rfl)
    b_range := He.free_ok X G (c.d.fact 9 (f := .free "range") rfl)
    b_repr := He.free_ok X G (c.d.fact 10 (f := .free "repr") rfl)
    b_set := He.free_ok X G (c.d.fact 11 (f := .free "set") rfl)
    b_sorted := He.free_ok X G (c.d.fact 12 (f := .free "sorted") rfl)
    b_str := He.free_ok X G (c.d.fact 13 (f := .free "str") rfl)
    b_tuple := He.free_ok X G (c.d.fact 14 (f := .free "tuple") rfl)
    b_zip := He.free_ok X G (c.d.fact 15 (f := .free "zip") rfl)
    c_ANY := con_ok (k := kk K) X G (x0)
    c_END := con_ok (k := kk K) X G (x1)
    c_GOES_ON := con_ok (k := kk K) X G (x2)
    c_LETTERS := con_ok (k := kk K) X G (x3)
    c_MOST_CODE := con_ok (k := kk K) X G (x4)
    c_MOST_LETTERS := con_ok (k := kk K) X G (x5)
    c_MOST_WORDS := con_ok (k := kk K) X G (x6)
    c_OFF_STACK := con_ok (k := kk K) X G (x7)
    c_OUT := con_ok (k := kk K) X G (x8)
    c_REGISTERS := con_ok (k := kk K) X G (x9)
    c_RETURN := con_ok (k := kk K) X G (x10)
    c_SCRATCH := con_ok (k := kk K) X G (x11)
    c_STACK := con_ok (k := kk K) X G (x12)
    c_WILD := con_ok (k := kk K) X G (x13)
    m_FORMS := He.glo_ok X G (c.d.fact 16 (f := .glo "FORMS") rfl)
    tab_FORMS := tab_ok (k := kk K) (c.tab 0 (t := (fun K => He.ga K "FORMS", tab_FORMS.map (·.1))) rfl) x14
    cls_Machine := He.cls_ok (c.d.fact 17 (f := .cls "Machine") rfl)
    mk_Machine := He.mkr_ok (c.d.fact 18 (f := .mkr "Machine") rfl)
    g_Machine := He.glo_ok X G (c.d.fact 19 (f := .glo "Machine") rfl)
    na_Machine_base := He.noat_ok (c.d.fact 20 (f := .noat "Machine" "base") rfl)
    na_Machine_held := He.noat_ok (c.d.fact 21 (f := .noat "Machine" "held") rfl)
    na_Machine_number := He.noat_ok (c.d.fact 22 (f := .noat "Machine" "number") rfl)
    na_Machine_sp := He.noat_ok (c.d.fact 23 (f := .noat "Machine" "sp") rfl)
    na_Machine_words := He.noat_ok (c.d.fact 24 (f := .noat "Machine" "words") rfl)
    F_p_law_begin := F0
    B_p_law_begin := F0.binds fun _ _ _ _ _ _ us hl => match us, hl with | [_], _ => rfl
    m_p_law_begin := He.glo_ok X G (c.d.fact 25 (f := .glo "_law_begin") rfl)
    F_p_law_mixed := F1
    B_p_law_mixed := F1.binds fun _ _ _ _ _ _ us hl => match us, hl with | [_, _], _ => rfl
    m_p_law_mixed := He.glo_ok X G (c.d.fact 26 (f := .glo "_law_mixed") rfl)
    F_p_law_draw := F2
    B_p_law_draw := F2.binds fun _ _ _ _ _ _ us hl => match us, hl with | [_, _], _ => rfl
    m_p_law_draw := He.glo_ok X G (c.d.fact 27 (f := .glo "_law_draw") rfl)
    F_p_law_of := F3
    B_p_law_of := F3.binds fun _ _ _ _ _ _ us hl => match us, hl with | [_, _], _ => rfl
    m_p_law_of := He.glo_ok X G (c.d.fact 28 (f := .glo "_law_of") rfl)
    F_p_law_rows_1 := F4
    B_p_law_rows_1 := F4.binds fun _ _ _ _ _ _ us hl => match us, hl with | [_, _, _], _ => rfl
    m_p_law_rows_1 := He.glo_ok X G (c.d.fact 29 (f := .glo "_law_rows") rfl)
    F_p_law_ends := F5
    B_p_law_ends := F5.binds fun _ _ _ _ _ _ us hl => match us, hl with | [_, _], _ => rfl
    m_p_law_ends := He.glo_ok X G (c.d.fact 30 (f := .glo "_law_ends") rfl)
    F_q_Machine___init__ := F6
    B_q_Machine___init__ := kb_of F6 fun _ _ _ _ _ _ us ws h1 h2 => match us, ws, h1, h2 with | [_, _, _, _], [_, _], _, _ => rfl
    F_q_Machine_is_on := F7
    B_q_Machine_is_on := F7.binds fun _ _ _ _ _ _ us hl => match us, hl with | [_, _], _ => rfl
    me_q_Machine_is_on := He.meth_ok (c.d.fact 31 (f := .meth "Machine" "is_on") rfl)
    F_q_Machine_move_sp := F8
    B_q_Machine_move_sp := F8.binds fun _ _ _ _ _ _ us hl => match us, hl with | [_, _], _ => rfl
    me_q_Machine_move_sp := He.meth_ok (c.d.fact 32 (f := .meth "Machine" "move_sp") rfl)
    F_q_Machine_address := F9
    B_q_Machine_address := F9.binds fun _ _ _ _ _ _ us hl => match us, hl with | [_, _], _ => rfl
    me_q_Machine_address := He.meth_ok (c.d.fact 33 (f := .meth "Machine" "address") rfl)
    F_q_Machine_set_word := F10
    B_q_Machine_set_word := F10.binds fun _ _ _ _ _ _ us hl => match us, hl with | [_, _, _], _ => rfl
    me_q_Machine_set_word := He.meth_ok (c.d.fact 34 (f := .meth "Machine" "set_word") rfl)
    F_q_Machine_do_stack := F11
    B_q_Machine_do_stack := F11.binds fun _ _ _ _ _ _ us hl => match us, hl with | [_, _], _ => rfl
    me_q_Machine_do_stack := He.meth_ok (c.d.fact 35 (f := .meth "Machine" "do_stack") rfl)
    F_q_Machine_do_memory := F12
    B_q_Machine_do_memory := F12.binds fun _ _ _ _ _ _ us hl => match us, hl with | [_, _], _ => rfl
    me_q_Machine_do_memory := He.meth_ok (c.d.fact 36 (f := .meth "Machine" "do_memory") rfl)
    F_q_Machine_forget_below := F13
    B_q_Machine_forget_below := F13.binds fun _ _ _ _ _ _ us hl => match us, hl with | [_, _], _ => rfl
    me_q_Machine_forget_below := He.meth_ok (c.d.fact 37 (f := .meth "Machine" "forget_below") rfl)
    F_q_Machine_forget := F14
    B_q_Machine_forget := F14.binds fun _ _ _ _ _ _ us hl => match us, hl with | [_], _ => rfl
    me_q_Machine_forget := He.meth_ok (c.d.fact 38 (f := .meth "Machine" "forget") rfl)
    F_q_Machine_do := F15
    B_q_Machine_do := F15.binds fun _ _ _ _ _ _ us hl => match us, hl with | [_, _], _ => rfl
    me_q_Machine_do := He.meth_ok (c.d.fact 39 (f := .meth "Machine" "do") rfl)
    F_q_next_places := F16
    B_q_next_places := F16.binds fun _ _ _ _ _ _ us hl => match us, hl with | [_, _], _ => rfl
    m_q_next_places := He.glo_ok X G (c.d.fact 40 (f := .glo "next_places") rfl)
    F_q_Machine_told := F17
    B_q_Machine_told := F17.binds fun _ _ _ _ _ _ us hl => match us, hl with | [_, _], _ => rfl
    me_q_Machine_told := He.meth_ok (c.d.fact 41 (f := .meth "Machine" "told") rfl)
    F_q_successors := F18
    B_q_successors := F18.binds fun _ _ _ _ _ _ us hl => match us, hl with | [_, _], _ => rfl
    m_q_successors := He.glo_ok X G (c.d.fact 42 (f := .glo "successors") rfl)
    F_q_first_values := F19
    B_q_first_values := F19.binds fun _ _ _ _ _ _ us hl => match us, hl with | [], _ => rfl
    m_q_first_values := He.glo_ok X G (c.d.fact 43 (f := .glo "first_values") rfl)
    F_q_first_stop := F20
    B_q_first_stop := F20.binds fun _ _ _ _ _ _ us hl => match us, hl with | [], _ => rfl
    m_q_first_stop := He.glo_ok X G (c.d.fact 44 (f := .glo "first_stop") rfl)
    F_q_is_integer := F21
    B_q_is_integer := F21.binds fun _ _ _ _ _ _ us hl => match us, hl with | [_, _, _], _ => rfl
    m_q_is_integer := He.glo_ok X G (c.d.fact 45 (f := .glo "is_integer") rfl)
    F_q_stop_at := F22
    B_q_stop_at := F22.binds fun _ _ _ _ _ _ us hl => match us, hl with | [_, _], _ => rfl
    m_q_stop_at := He.glo_ok X G (c.d.fact 46 (f := .glo "stop_at") rfl)
    F_q_form_of := F23
    B_q_form_of := F23.binds fun _ _ _ _ _ _ us hl => match us, hl with | [_], _ => rfl
    m_q_form_of := He.glo_ok X G (c.d.fact 47 (f := .glo "form_of") rfl)
    F_q_is_register := F24
    B_q_is_register := F24.binds fun _ _ _ _ _ _ us hl => match us, hl with | [_], _ => rfl
    m_q_is_register := He.glo_ok X G (c.d.fact 48 (f := .glo "is_register") rfl)
    F_q_is_basis := F25
    B_q_is_basis := F25.binds fun _ _ _ _ _ _ us hl => match us, hl with | [_], _ => rfl
    m_q_is_basis := He.glo_ok X G (c.d.fact 49 (f := .glo "is_basis") rfl)
    F_q_is_name := F26
    B_q_is_name := F26.binds fun _ _ _ _ _ _ us hl => match us, hl with | [_], _ => rfl
    m_q_is_name := He.glo_ok X G (c.d.fact 50 (f := .glo "is_name") rfl)
    F_q_part_fits := F27
    B_q_part_fits := F27.binds fun _ _ _ _ _ _ us hl => match us, hl with | [_, _, _], _ => rfl
    m_q_part_fits := He.glo_ok X G (c.d.fact 51 (f := .glo "part_fits") rfl)
    F_q_is_instruction := F28
    B_q_is_instruction := F28.binds fun _ _ _ _ _ _ us hl => match us, hl with | [_, _], _ => rfl
    m_q_is_instruction := He.glo_ok X G (c.d.fact 52 (f := .glo "is_instruction") rfl)
    F_q_need_code := F29
    B_q_need_code := F29.binds fun _ _ _ _ _ _ us hl => match us, hl with | [_], _ => rfl
    m_q_need_code := He.glo_ok X G (c.d.fact 53 (f := .glo "need_code") rfl)
    F_q_run := F30
    B_q_run := F30.binds fun _ _ _ _ _ _ us hl => match us, hl with | [_, _], _ => rfl
    m_q_run := He.glo_ok X G (c.d.fact 54 (f := .glo "run") rfl)
    F_q_following := F31
    B_q_following := F31.binds fun _ _ _ _ _ _ us hl => match us, hl with | [_, _], _ => rfl
    m_q_following := He.glo_ok X G (c.d.fact 55 (f := .glo "following") rfl)
    F_q_breaking := F32
    B_q_breaking := F32.binds fun _ _ _ _ _ _ us hl => match us, hl with | [_, _], _ => rfl
    m_q_breaking := He.glo_ok X G (c.d.fact 56 (f := .glo "breaking") rfl)
    F_q_law_1 := F33
    B_q_law_1 := F33.binds fun _ _ _ _ _ _ us hl => match us, hl with | [_], _ => rfl
    m_q_law_1 := He.glo_ok X G (c.d.fact 57 (f := .glo "law") rfl)
  }
end K08
set_option Elab.async false
set_option linter.all false
set_option maxRecDepth 100000
set_option maxHeartbeats 4000000
namespace Sh
open PySem L2
section
variable {S : Sto} {i j : Int} {x y : Str} {b : Bool} {xs ys : List D} {l : Nat} {kvs : List (Key × D)}
theorem d_int : deref S (.int i) = .int i := rfl
theorem d_str : deref S (.str x) = .str x := rfl
theorem d_bl : deref S (.bl b) = .bl b := rfl
theorem d_non : deref S .non = .non := rfl
theorem d_tup : deref S (.tup xs) = .tup xs := rfl
theorem d_ftp : deref S (.ftp xs) = .tup xs := rfl
theorem d_lst : deref S (.lst xs) = .lst xs := rfl
theorem d_fls : deref S (.fls xs) = .fls xs := rfl
theorem d_dic : deref S (.dic kvs) = .dic kvs := rfl
theorem d_ty {n : String} : deref S (.ty n) = .ty n := rfl
theorem d_locL (h : S[l]? = some (.lst xs)) : deref S (.loc l) = .lst xs := by simp only [deref, h]
theorem d_locD (h : S[l]? = some (.dic kvs)) : deref S (.loc l) = .dic kvs := by simp only [deref, h]
theorem add_int : gAdd (.int i) (.int j) = some (.int (i + j)) := rfl
theorem sub_int : gSub (.int i) (.int j) = some (.int (i - j)) := rfl
theorem mul_int (h : -(2 ^ 64) < i ∧ i < 2 ^ 64) : gMul (.int i) (.int j) = some (.int (i * j)) := by simp only [gMul]; rw [if_pos (by omega)]
theorem mod_int (h : 0 < j) : gMod (.int i) (.int j) = some (.int (i % j)) := by simp only [gMod]; rw [if_pos h]
theorem div_int (h : 0 < j ∧ j < 1073741824) : gDiv (.int i) (.int j) = some (.int (i / j)) := by simp only [gDiv]; rw [if_pos h]
theorem lt_int : gLt (.int i) (.int j) = some (.bl (decide (i < j))) := rfl
theorem le_int : gLe (.int i) (.int j) = some (.bl (decide (i ≤ j))) := rfl
theorem gt_int : gGt (.int i) (.int j) = some (.bl (decide (j < i))) := rfl
theorem ge_int : gGe (.int i) (.int j) = some (.bl (decide (j ≤ i))) := rfl
theorem int_int : gInt [.int i] = some (.int i) := rfl
theorem len_lst : gLen [.lst xs] = some (.int xs.length) := rfl
theorem len_tup : gLen [.tup xs] = some (.int xs.length) := rfl
theorem len_fls : gLen [.fls xs] = some (.int xs.length) := rfl
theorem idx_lst : gIdx (.lst xs) (.int i) = atI xs i := rfl
theorem idx_tup : gIdx (.tup xs) (.int i) = atI xs i := rfl
theorem idx_dicS : gIdx (.dic kvs) (.str x) = dLook kvs (.inr x) := rfl
theorem idx_dicI : gIdx (.dic kvs) (.int i) = dLook kvs (.inl i) := rfl
end
/-- a comprehension whose parts change nothing -/
theorem lcL_pure {b : D → Env → Option Env} {t : EM Bool} {el : EM D} {e : Env} {S : Sto} (p : D → Bool) (f : D → D) : ∀ {ds : List D},
    (∀ d ∈ ds, ∃ e1, b d e = some e1 ∧ t e1 S = .ok (p d) S ∧ (p d = true → el e1 S = .ok (f d) S)) → lcL b t el e ds S = .ok ((ds.filter p).map f) S
  | [], _ => rfl
  | d :: ds, h => by
    obtain ⟨e1, h1, h2, h3⟩ := h d List.mem_cons_self
    have ih := lcL_pure p f (ds := ds) fun x hx => h x (List.mem_cons_of_mem _ hx)
    cases c : p d with
    | true => simp only [lcL, h1, h2, c, h3 c, ih, List.filter_cons_of_pos c, List.map_cons]
    | false =>
      have hc : ¬ p d = true := by rw [c]; decide
      simp only [lcL, h1, h2, c, ih, List.filter_cons_of_neg hc]
theorem lcF_0 (b : D → Env → Option Env) (t : EM Bool) (el : EM D) (e : Env) (ds : List D) (S : Sto) : lcF b t el e (ds.length + 1) (.st ds) 0 S = lcL b t el e ds S := lcF_st b t el e ds ds 0 _ S rfl (Nat.lt_succ_self _)
theorem sLoopF_0 (g : D → SM) (body : SM) (ds : List D) (e : Env) (S : Sto) : sLoopF g body (ds.length + 1) (.st ds) 0 e S = sLoop g body ds e S := sLoopF_st g body ds ds 0 _ e S rfl (Nat.lt_succ_self _)
theorem lcF_n {b : D → Env → Option Env} {t : EM Bool} {el : EM D} {e : Env} {ds : List D} {S : Sto} {n : Nat} (h : n = ds.length + 1) : lcF b t el e n (.st ds) 0 S = lcL b t el e ds S := by
  rw [h]; exact lcF_0 b t el e ds S
theorem sLoopF_n {g : D → SM} {body : SM} {ds : List D} {e : Env} {S : Sto} {n : Nat} (h : n = ds.length + 1) : sLoopF g body n (.st ds) 0 e S = sLoop g body ds e S := by
  rw [h]; exact sLoopF_0 g body ds e S
theorem lc_0 {b : D → Env → Option Env} {t : EM Bool} {el : EM D} {e : Env} {S : Sto} : lcF b t el e 1 (.st []) 0 S = lcL b t el e [] S := lcF_0 b t el e [] S
theorem lc_1 {b : D → Env → Option Env} {t : EM Bool} {el : EM D} {e : Env} {S : Sto} {x : D} : lcF b t el e 2 (.st [x]) 0 S = lcL b t el e [x] S := lcF_0 b t el e [x] S
theorem lc_2 {b : D → Env → Option Env} {t : EM Bool} {el : EM D} {e : Env} {S : Sto} {x y : D} : lcF b t el e 3 (.st [x, y]) 0 S = lcL b t el e [x, y] S := lcF_0 b t el e [x, y] S
theorem lc_3 {b : D → Env → Option Env} {t : EM Bool} {el : EM D} {e : Env} {S : Sto} {x y z : D} : lcF b t el e 4 (.st [x, y, z]) 0 S = lcL b t el e [x, y, z] S := lcF_0 b t el e [x, y, z] S
theorem enum_cons {k : Int} {x : D} {l : List D} : zipD (rngD k (l.length + 1)) (x :: l) = .tup [.int k, x] :: zipD (rngD (k + 1) l.length) l := by
  unfold zipD rngD
  rw [List.range_succ_eq_map, List.map_cons, List.zipWith_cons_cons, List.map_map]
  congr 1
  · simp
  · congr 1
    refine List.map_congr_left fun i _ => ?_
    simp only [Function.comp_def, Nat.succ_eq_add_one]
    congr 1
    omega
theorem rng2_of {i j : Int} (h : i.natAbs < 100000000) (h2 : j.natAbs < 100000000) : rng2 [.int i, .int j] = some (i, (j - i).toNat) := by
  simp only [rng2]
  rw [if_pos ⟨h, h2⟩]
theorem rng1_of {j : Int} (h : j.natAbs < 100000000) : rng1 [.int j] = some (0, j.toNat) := by
  simp only [rng1]
  rw [if_pos h]
theorem eRng_of {g : List D → Option (Int × Nat)} {m : EM (List D)} {e : Env} {S S' : Sto} {ds : List D} {lo : Int} {n : Nat} (h : m e S = .ok ds S') (hg : g ds = some (lo, n)) : eRng g m e S = .ok (.st (rngD lo n)) S' := by
  simp only [eRng, bindE, h, hg]
/-- a loop by what holds ahead of each turn -/
theorem sLoop_ind {g : D → SM} {body : SM} (P : List D → Env → Sto → Prop) : ∀ (ds : List D) (e : Env) (S : Sto), P ds e S →
    (∀ d r e S, P (d :: r) e S → ∃ e1 S1 e2 S2, g d e S = .nx e1 S1 ∧ (body e1 S1 = .nx e2 S2 ∨ body e1 S1 = .ct e2 S2) ∧ P r e2 S2) → ∃ e' S', sLoop g body ds e S = .nx e' S' ∧ P [] e' S'
  | [], e, S, h, _ => ⟨e, S, rfl, h⟩
  | d :: r, e, S, h, st => by
    obtain ⟨e1, S1, e2, S2, h1, h2, h3⟩ := st d r e S h
    obtain ⟨e', S', q, z⟩ := sLoop_ind P r e2 S2 h3 st
    refine ⟨e', S', ?_, z⟩
    rcases h2 with h2 | h2 <;> simp only [sLoop, h1, h2, q]
/-- a loop over a list in the store that the turns leave as it is -/
theorem sLoopF_li {g : D → SM} {body : SM} {l : Nat} (P : List D → Env → Sto → Prop) (all : List D) : ∀ (ds : List D) (i f : Nat) (e : Env) (S : Sto), all.drop i = ds → ds.length < f → P ds e S → (∀ r e S, P r e S → S[l]? = some (.lst all)) →
    (∀ d r e S, P (d :: r) e S → ∃ e1 S1 e2 S2, g d e S = .nx e1 S1 ∧ (body e1 S1 = .nx e2 S2 ∨ body e1 S1 = .ct e2 S2) ∧ P r e2 S2) → ∃ e' S', sLoopF g body f (.li l) i e S = .nx e' S' ∧ P [] e' S'
  | [], i, f + 1, e, S, hd, _, h, st, _ => by
    have hn : all[i]? = none := by
      rw [List.getElem?_eq_none_iff]; have := congrArg List.length hd; simp at this; omega
    exact ⟨e, S, by simp only [sLoopF, item, st _ _ _ h, hn], h⟩
  | d :: ds, i, f + 1, e, S, hd, hf, h, st, tu => by
    have hn : all[i]? = some d := by rw [← List.head?_drop, hd]; rfl
    have hd' : all.drop (i + 1) = ds := by rw [← List.tail_drop, hd]; rfl
    obtain ⟨e1, S1, e2, S2, h1, h2, h3⟩ := tu d ds e S h
    obtain ⟨e', S', q, z⟩ := sLoopF_li P all ds (i + 1) f e2 S2 hd' (by simp at hf; omega) h3 st tu
    refine ⟨e', S', ?_, z⟩
    rcases h2 with h2 | h2 <;> simp only [sLoopF, item, st _ _ _ h, hn, h1, h2, q]
theorem at0 {x : D} {r : List D} : atI (x :: r) 0 = some x := by
  unfold atI ixN
  simp
end Sh
set_option Elab.async false
set_option linter.all false
set_option maxRecDepth 100000
set_option maxHeartbeats 4000000
namespace U
open PySem Sh L2
/-! ### values in registers and words -/
inductive Rg where
  | p | q | r | s | x | y
deriving DecidableEq
def Rg.n : Rg → Str
  | .p => "p" | .q => "q" | .r => "r" | .s => "s" | .x => "x" | .y => "y"
inductive Vl where
  | fst (g : Rg) | wrd (n a : Int) | any | bck
deriving DecidableEq
def dV : Vl → D
  | .fst g => .tup [.str "first", .str g.n]
  | .wrd n a => .tup [.str "word", .int n, .int a]
  | .any => .tup [.str "any"]
  | .bck => .tup [.str "back", .str "", .int 0]
def isAny : Vl → Bool
  | .any => true
  | _ => false
def isBck : Vl → Bool
  | .bck => true
  | _ => false
theorem d_dV {S : Sto} (v : Vl) : deref S (dV v) = dV v := by cases v <;> rfl
theorem d_hd {S : Sto} {l : Nat} {h : List (Key × D)} (e : S[l]? = some (.dic h)) : deref S (.loc l) = .dic h := d_locD e
theorem eq_any (v : Vl) : gEq (dV v) v_ANY = some (.bl (isAny v)) := by
  cases v with
  | fst g => cases g <;> kernel_rfl
  | _ => kernel_rfl
theorem eq_out (v : Vl) : gEq (dV v) v_OUT = some (.bl (isBck v)) := by
  cases v with
  | fst g => cases g <;> kernel_rfl
  | _ => kernel_rfl
/-- the registers -/
structure Hd where
  p : Vl
  q : Vl
  r : Vl
  s : Vl
  x : Vl
  y : Vl
deriving DecidableEq
def Hd.d (h : Hd) : List (Key × D) := [(.inr "p", dV h.p), (.inr "q", dV h.q), (.inr "r", dV h.r), (.inr "s", dV h.s), (.inr "x", dV h.x), (.inr "y", dV h.y)]
def Hd.get (h : Hd) : Rg → Vl
  | .p => h.p | .q => h.q | .r => h.r | .s => h.s | .x => h.x | .y => h.y
def Hd.set (h : Hd) (g : Rg) (v : Vl) : Hd := match g with
  | .p => { h with p := v } | .q => { h with q := v } | .r => { h with r := v } | .s => { h with s := v } | .x => { h with x := v } | .y => { h with y := v }
theorem look_h (h : Hd) (g : Rg) : dLook h.d (.inr g.n) = some (dV (h.get g)) := by cases g <;> rfl
theorem put_h (h : Hd) (g : Rg) (v : Vl) : putD h.d (.inr g.n) (dV v) = (h.set g v).d := by cases g <;> rfl
/-- the words -/
abbrev Ws := List (Int × Vl)
def Ws.d (w : Ws) : List (Key × D) := w.map fun p => (.inl p.1, dV p.2)
def Ws.get (w : Ws) (a : Int) : Option Vl := (w.find? fun p => decide (p.1 = a)).map (·.2)
def Ws.put (w : Ws) (a : Int) (v : Vl) : Ws := if (w.any fun p => decide (p.1 = a)) = true then w.map (fun p => if p.1 = a then (p.1, v) else p) else w ++ [(a, v)]
def Ws.drop (w : Ws) (a : Int) : Ws := w.filter fun p => decide (p.1 ≠ a)
theorem look_w (a : Int) : ∀ w : Ws, dLook (Ws.d w) (.inl a) = (Ws.get w a).map dV
  | [] => rfl
  | p :: r => by
    have ih := look_w a r
    unfold dLook Ws.get Ws.d at *
    simp only [List.map_cons, List.find?_cons, Sum.inl.injEq]
    by_cases h : p.1 = a
    · simp [h]
    · simp only [h, decide_false]; exact ih
theorem any_w (a : Int) (w : Ws) : ((Ws.d w).any fun kv => decide (kv.1 = Sum.inl a)) = w.any fun p => decide (p.1 = a) := by
  simp [Ws.d, List.any_map, Function.comp_def]
theorem put_w (a : Int) (v : Vl) (w : Ws) : putD (Ws.d w) (.inl a) (dV v) = Ws.d (Ws.put w a v) := by
  unfold putD Ws.put
  rw [any_w]
  split
  · simp only [Ws.d, List.map_map]
    refine List.map_congr_left fun p _ => ?_
    simp only [Function.comp_def, Sum.inl.injEq]
    split <;> rfl
  · simp [Ws.d]
theorem drop_w (a : Int) (w : Ws) : dropD (Ws.d w) (.inl a) = Ws.d (Ws.drop w a) := by
  unfold dropD Ws.drop Ws.d
  rw [List.filter_map]
  congr 1
  refine List.filter_congr fun p _ => ?_
  simp
/-! ### the machine in the store -/
def flds (num base sp : Int) (L : Nat) : List (Str × D) := [("number", .int num), ("base", .int base), ("sp", .int sp), ("held", .loc L), ("words", .loc (L + 1))]
def mst (S : Sto) (num base sp : Int) (h : Hd) (w : Ws) : Sto := S ++ [.dic h.d, .dic (Ws.d w), .ins 0 (flds num base sp S.length)]
section
variable {S : Sto} {num base sp sp' : Int} {h h' : Hd} {w w' : Ws}
theorem m_h : (mst S num base sp h w)[S.length]? = some (.dic h.d) := by simp [mst]
theorem m_w : (mst S num base sp h w)[S.length + 1]? = some (.dic (Ws.d w)) := by simp [mst, List.getElem?_append_right]
theorem m_i : (mst S num base sp h w)[S.length + 2]? = some (.ins 0 (flds num base sp S.length)) := by simp [mst, List.getElem?_append_right]
theorem m_seth : (mst S num base sp h w).set S.length (.dic h'.d) = mst S num base sp h' w := by simp [mst, List.set_append_right]
theorem m_setw : (mst S num base sp h w).set (S.length + 1) (.dic (Ws.d w')) = mst S num base sp h w' := by simp [mst, List.set_append_right]
theorem m_seti : (mst S num base sp h w).set (S.length + 2) (.ins 0 (flds num base sp' S.length)) = mst S num base sp' h w := by simp [mst, List.set_append_right]
theorem i_at : insAt (mst S num base sp h w) 0 (.loc (S.length + 2)) = some (S.length + 2, flds num base sp S.length) := by
  simp only [insAt, m_i, if_true]
theorem dm_h : deref (mst S num base sp h w) (.loc S.length) = .dic h.d := d_locD m_h
theorem dm_w : deref (mst S num base sp h w) (.loc (S.length + 1)) = .dic (Ws.d w) := d_locD m_w
theorem l_num {L : Nat} : (flds num base sp L).lookup ("number" : Str) = some (.int num) := by rfl
theorem l_base {L : Nat} : (flds num base sp L).lookup ("base" : Str) = some (.int base) := by rfl
theorem l_sp {L : Nat} : (flds num base sp L).lookup ("sp" : Str) = some (.int sp) := by rfl
theorem l_held {L : Nat} : (flds num base sp L).lookup ("held" : Str) = some (.loc L) := by rfl
theorem l_words {L : Nat} : (flds num base sp L).lookup ("words" : Str) = some (.loc (L + 1)) := by rfl
theorem p_sp {L : Nat} : putFD "sp" (.int sp') (flds num base sp L) = flds num base sp' L := by rfl
theorem f_len5 {L : Nat} : (flds num base sp L).length = 5 := rfl
theorem l_m1 {L : Nat} : (flds num base sp L).lookup ("is_on" : Str) = none := by rfl
theorem l_m2 {L : Nat} : (flds num base sp L).lookup ("move_sp" : Str) = none := by rfl
theorem l_m3 {L : Nat} : (flds num base sp L).lookup ("address" : Str) = none := by rfl
theorem l_m4 {L : Nat} : (flds num base sp L).lookup ("set_word" : Str) = none := by rfl
theorem l_m5 {L : Nat} : (flds num base sp L).lookup ("do_stack" : Str) = none := by rfl
theorem l_m6 {L : Nat} : (flds num base sp L).lookup ("do_memory" : Str) = none := by rfl
theorem l_m7 {L : Nat} : (flds num base sp L).lookup ("forget" : Str) = none := by rfl
theorem l_m8 {L : Nat} : (flds num base sp L).lookup ("forget_below" : Str) = none := by rfl
theorem l_m9 {L : Nat} : (flds num base sp L).lookup ("told" : Str) = none := by rfl
theorem l_m0 {L : Nat} : (flds num base sp L).lookup ("do" : Str) = none := by rfl
end
end U
set_option Elab.async false
set_option linter.all false
set_option maxRecDepth 100000
set_option maxHeartbeats 4000000
namespace U
open PySem Sh L2
theorem eqs {a b : Str} : gEq (.str a) (.str b) = some (.bl (decide (a = b))) := by simp [gEq, eqG]
theorem nes {a b : Str} : gNe (.str a) (.str b) = some (.bl (!decide (a = b))) := by simp [gNe, eqG]
theorem ine {a b : Int} : gEq (.int a) (.int b) = some (.bl (decide (a = b))) := by simp [gEq, eqG]
section
variable {S : Sto} {num base sp : Int} {h : Hd} {w : Ws}
def on (base a : Int) : Bool := decide (base - 64 ≤ a) && decide (a ≤ base)
theorem is_on_eq (a : Int) : f_q_Machine_is_on [.loc (S.length + 2), .int a] (mst S num base sp h w) = .ok (.bl (on base a)) (mst S num base sp h w) := by
  by_cases c : base - 64 ≤ a
  · simp (disch := omega) only [fnM, startE, finR, List.length_cons, List.length_nil, List.map_cons, List.map_nil, if_true, if_false, sSeq, sBind, sAsg, sRet, sRetN, sNil, sIf, sExpr, sPar, bindE, eOp, eVar, eC, eCallB, eCall, eCons, eNil, eTup, eLst, eIf, vAnd, vOr, vNot, bAnd, bOr, bNot, asB, liftO, gVar, onlyN, List.replicate, List.append_nil, List.cons_append, List.nil_append, List.getElem?_cons_zero, List.getElem?_cons_succ, List.set_cons_zero, List.set_cons_succ, Nat.reduceAdd, Nat.reduceSub, Nat.reduceLeDiff, Bool.false_eq_true, Bool.not_true, Bool.not_false, reduceIte, Nat.reduceEqDiff, d_int, d_str, d_bl, d_non, d_tup, d_ftp, d_lst, d_fls, d_dic, d_ty, d_locL, d_locD, add_int, sub_int, mul_int, mod_int, div_int, lt_int, le_int, gt_int, ge_int, int_int, len_lst, len_tup, len_fls, idx_lst, idx_tup, idx_dicS, idx_dicI, eFld, eMeth, sFldM, gFld, gSubM, eGet2, ePop2, eChain, i_at, eq_self, l_num, l_base, l_sp, l_held, l_words, p_sp, f_len5, l_m0, l_m1, l_m2, l_m3, l_m4, l_m5, l_m6, l_m7, l_m8, l_m9, m_h, m_w, m_i, m_seth, m_setw, m_seti, look_h, look_w, d_dV, dm_h, dm_w, put_w, put_h, drop_w, eq_any, eq_out, dicOf, locDic, toKey, v_STACK, v_GOES_ON, v_OFF_STACK, v_WILD, v_MOST_WORDS, v_RETURN, v_END, Nat.reduceLT, eqs, ine, Option.map_some, Option.map_none, Option.getD_some, Option.getD_none, f_q_Machine_is_on, b_q_Machine_is_on, c, decide_true, on, Bool.true_and]
  · simp (disch := omega) only [fnM, startE, finR, List.length_cons, List.length_nil, List.map_cons, List.map_nil, if_true, if_false, sSeq, sBind, sAsg, sRet, sRetN, sNil, sIf, sExpr, sPar, bindE, eOp, eVar, eC, eCallB, eCall, eCons, eNil, eTup, eLst, eIf, vAnd, vOr, vNot, bAnd, bOr, bNot, asB, liftO, gVar, onlyN, List.replicate, List.append_nil, List.cons_append, List.nil_append, List.getElem?_cons_zero, List.getElem?_cons_succ, List.set_cons_zero, List.set_cons_succ, Nat.reduceAdd, Nat.reduceSub, Nat.reduceLeDiff, Bool.false_eq_true, Bool.not_true, Bool.not_false, reduceIte, Nat.reduceEqDiff, d_int, d_str, d_bl, d_non, d_tup, d_ftp, d_lst, d_fls, d_dic, d_ty, d_locL, d_locD, add_int, sub_int, mul_int, mod_int, div_int, lt_int, le_int, gt_int, ge_int, int_int, len_lst, len_tup, len_fls, idx_lst, idx_tup, idx_dicS, idx_dicI, eFld, eMeth, sFldM, gFld, gSubM, eGet2, ePop2, eChain, i_at, eq_self, l_num, l_base, l_sp, l_held, l_words, p_sp, f_len5, l_m0, l_m1, l_m2, l_m3, l_m4, l_m5, l_m6, l_m7, l_m8, l_m9, m_h, m_w, m_i, m_seth, m_setw, m_seti, look_h, look_w, d_dV, dm_h, dm_w, put_w, put_h, drop_w, eq_any, eq_out, dicOf, locDic, toKey, v_STACK, v_GOES_ON, v_OFF_STACK, v_WILD, v_MOST_WORDS, v_RETURN, v_END, Nat.reduceLT, eqs, ine, Option.map_some, Option.map_none, Option.getD_some, Option.getD_none, f_q_Machine_is_on, b_q_Machine_is_on, c, decide_false, on, Bool.false_and]
theorem move_eq (a : Int) : f_q_Machine_move_sp [.loc (S.length + 2), .int a] (mst S num base sp h w) = if on base a = true then .ok (.str "") (mst S num base a h w) else .ok (.str "sp") (mst S num base sp h w) := by
  cases c : on base a
  · simp (disch := omega) only [fnM, startE, finR, List.length_cons, List.length_nil, List.map_cons, List.map_nil, if_true, if_false, sSeq, sBind, sAsg, sRet, sRetN, sNil, sIf, sExpr, sPar, bindE, eOp, eVar, eC, eCallB, eCall, eCons, eNil, eTup, eLst, eIf, vAnd, vOr, vNot, bAnd, bOr, bNot, asB, liftO, gVar, onlyN, List.replicate, List.append_nil, List.cons_append, List.nil_append, List.getElem?_cons_zero, List.getElem?_cons_succ, List.set_cons_zero, List.set_cons_succ, Nat.reduceAdd, Nat.reduceSub, Nat.reduceLeDiff, Bool.false_eq_true, Bool.not_true, Bool.not_false, reduceIte, Nat.reduceEqDiff, d_int, d_str, d_bl, d_non, d_tup, d_ftp, d_lst, d_fls, d_dic, d_ty, d_locL, d_locD, add_int, sub_int, mul_int, mod_int, div_int, lt_int, le_int, gt_int, ge_int, int_int, len_lst, len_tup, len_fls, idx_lst, idx_tup, idx_dicS, idx_dicI, eFld, eMeth, sFldM, gFld, gSubM, eGet2, ePop2, eChain, i_at, eq_self, l_num, l_base, l_sp, l_held, l_words, p_sp, f_len5, l_m0, l_m1, l_m2, l_m3, l_m4, l_m5, l_m6, l_m7, l_m8, l_m9, m_h, m_w, m_i, m_seth, m_setw, m_seti, look_h, look_w, d_dV, dm_h, dm_w, put_w, put_h, drop_w, eq_any, eq_out, dicOf, locDic, toKey, v_STACK, v_GOES_ON, v_OFF_STACK, v_WILD, v_MOST_WORDS, v_RETURN, v_END, Nat.reduceLT, eqs, ine, Option.map_some, Option.map_none, Option.getD_some, Option.getD_none, f_q_Machine_move_sp, b_q_Machine_move_sp, is_on_eq, c]
  · simp (disch := omega) only [fnM, startE, finR, List.length_cons, List.length_nil, List.map_cons, List.map_nil, if_true, if_false, sSeq, sBind, sAsg, sRet, sRetN, sNil, sIf, sExpr, sPar, bindE, eOp, eVar, eC, eCallB, eCall, eCons, eNil, eTup, eLst, eIf, vAnd, vOr, vNot, bAnd, bOr, bNot, asB, liftO, gVar, onlyN, List.replicate, List.append_nil, List.cons_append, List.nil_append, List.getElem?_cons_zero, List.getElem?_cons_succ, List.set_cons_zero, List.set_cons_succ, Nat.reduceAdd, Nat.reduceSub, Nat.reduceLeDiff, Bool.false_eq_true, Bool.not_true, Bool.not_false, reduceIte, Nat.reduceEqDiff, d_int, d_str, d_bl, d_non, d_tup, d_ftp, d_lst, d_fls, d_dic, d_ty, d_locL, d_locD, add_int, sub_int, mul_int, mod_int, div_int, lt_int, le_int, gt_int, ge_int, int_int, len_lst, len_tup, len_fls, idx_lst, idx_tup, idx_dicS, idx_dicI, eFld, eMeth, sFldM, gFld, gSubM, eGet2, ePop2, eChain, i_at, eq_self, l_num, l_base, l_sp, l_held, l_words, p_sp, f_len5, l_m0, l_m1, l_m2, l_m3, l_m4, l_m5, l_m6, l_m7, l_m8, l_m9, m_h, m_w, m_i, m_seth, m_setw, m_seti, look_h, look_w, d_dV, dm_h, dm_w, put_w, put_h, drop_w, eq_any, eq_out, dicOf, locDic, toKey, v_STACK, v_GOES_ON, v_OFF_STACK, v_WILD, v_MOST_WORDS, v_RETURN, v_END, Nat.reduceLT, eqs, ine, Option.map_some, Option.map_none, Option.getD_some, Option.getD_none, f_q_Machine_move_sp, b_q_Machine_move_sp, is_on_eq, c]
theorem addr_sp : f_q_Machine_address [.loc (S.length + 2), .str "sp"] (mst S num base sp h w) = .ok (.int sp) (mst S num base sp h w) := by
  simp (disch := omega) only [fnM, startE, finR, List.length_cons, List.length_nil, List.map_cons, List.map_nil, if_true, if_false, sSeq, sBind, sAsg, sRet, sRetN, sNil, sIf, sExpr, sPar, bindE, eOp, eVar, eC, eCallB, eCall, eCons, eNil, eTup, eLst, eIf, vAnd, vOr, vNot, bAnd, bOr, bNot, asB, liftO, gVar, onlyN, List.replicate, List.append_nil, List.cons_append, List.nil_append, List.getElem?_cons_zero, List.getElem?_cons_succ, List.set_cons_zero, List.set_cons_succ, Nat.reduceAdd, Nat.reduceSub, Nat.reduceLeDiff, Bool.false_eq_true, Bool.not_true, Bool.not_false, reduceIte, Nat.reduceEqDiff, d_int, d_str, d_bl, d_non, d_tup, d_ftp, d_lst, d_fls, d_dic, d_ty, d_locL, d_locD, add_int, sub_int, mul_int, mod_int, div_int, lt_int, le_int, gt_int, ge_int, int_int, len_lst, len_tup, len_fls, idx_lst, idx_tup, idx_dicS, idx_dicI, eFld, eMeth, sFldM, gFld, gSubM, eGet2, ePop2, eChain, i_at, eq_self, l_num, l_base, l_sp, l_held, l_words, p_sp, f_len5, l_m0, l_m1, l_m2, l_m3, l_m4, l_m5, l_m6, l_m7, l_m8, l_m9, m_h, m_w, m_i, m_seth, m_setw, m_seti, look_h, look_w, d_dV, dm_h, dm_w, put_w, put_h, drop_w, eq_any, eq_out, dicOf, locDic, toKey, v_STACK, v_GOES_ON, v_OFF_STACK, v_WILD, v_MOST_WORDS, v_RETURN, v_END, Nat.reduceLT, eqs, ine, Option.map_some, Option.map_none, Option.getD_some, Option.getD_none, f_q_Machine_address, b_q_Machine_address, decide_true]
theorem rg_sp (g : Rg) : decide (g.n = ("sp" : Str)) = false := by cases g <;> rfl
/-- where a value points -/
def aim (num : Int) : Vl → D
  | .wrd n a => if n = num then .int a else .non
  | _ => .non
theorem addr_rg (g : Rg) : f_q_Machine_address [.loc (S.length + 2), .str g.n] (mst S num base sp h w) = .ok (aim num (h.get g)) (mst S num base sp h w) := by
  cases e : h.get g with
  | wrd n a =>
    by_cases c : n = num
    · simp (disch := omega) only [fnM, startE, finR, List.length_cons, List.length_nil, List.map_cons, List.map_nil, if_true, if_false, sSeq, sBind, sAsg, sRet, sRetN, sNil, sIf, sExpr, sPar, bindE, eOp, eVar, eC, eCallB, eCall, eCons, eNil, eTup, eLst, eIf, vAnd, vOr, vNot, bAnd, bOr, bNot, asB, liftO, gVar, onlyN, List.replicate, List.append_nil, List.cons_append, List.nil_append, List.getElem?_cons_zero, List.getElem?_cons_succ, List.set_cons_zero, List.set_cons_succ, Nat.reduceAdd, Nat.reduceSub, Nat.reduceLeDiff, Bool.false_eq_true, Bool.not_true, Bool.not_false, reduceIte, Nat.reduceEqDiff, d_int, d_str, d_bl, d_non, d_tup, d_ftp, d_lst, d_fls, d_dic, d_ty, d_locL, d_locD, add_int, sub_int, mul_int, mod_int, div_int, lt_int, le_int, gt_int, ge_int, int_int, len_lst, len_tup, len_fls, idx_lst, idx_tup, idx_dicS, idx_dicI, eFld, eMeth, sFldM, gFld, gSubM, eGet2, ePop2, eChain, i_at, eq_self, l_num, l_base, l_sp, l_held, l_words, p_sp, f_len5, l_m0, l_m1, l_m2, l_m3, l_m4, l_m5, l_m6, l_m7, l_m8, l_m9, m_h, m_w, m_i, m_seth, m_setw, m_seti, look_h, look_w, d_dV, dm_h, dm_w, put_w, put_h, drop_w, eq_any, eq_out, dicOf, locDic, toKey, v_STACK, v_GOES_ON, v_OFF_STACK, v_WILD, v_MOST_WORDS, v_RETURN, v_END, Nat.reduceLT, eqs, ine, Option.map_some, Option.map_none, Option.getD_some, Option.getD_none, f_q_Machine_address, b_q_Machine_address, rg_sp, e, dV, aim, c, show ∀ x y z : D, atI [x, y, z] 0 = some x from fun _ _ _ => rfl, show ∀ x y z : D, atI [x, y, z] 1 = some y from fun _ _ _ => rfl, show ∀ x y z : D, atI [x, y, z] 2 = some z from fun _ _ _ => rfl, decide_true]
    · simp (disch := omega) only [fnM, startE, finR, List.length_cons, List.length_nil, List.map_cons, List.map_nil, if_true, if_false, sSeq, sBind, sAsg, sRet, sRetN, sNil, sIf, sExpr, sPar, bindE, eOp, eVar, eC, eCallB, eCall, eCons, eNil, eTup, eLst, eIf, vAnd, vOr, vNot, bAnd, bOr, bNot, asB, liftO, gVar, onlyN, List.replicate, List.append_nil, List.cons_append, List.nil_append, List.getElem?_cons_zero, List.getElem?_cons_succ, List.set_cons_zero, List.set_cons_succ, Nat.reduceAdd, Nat.reduceSub, Nat.reduceLeDiff, Bool.false_eq_true, Bool.not_true, Bool.not_false, reduceIte, Nat.reduceEqDiff, d_int, d_str, d_bl, d_non, d_tup, d_ftp, d_lst, d_fls, d_dic, d_ty, d_locL, d_locD, add_int, sub_int, mul_int, mod_int, div_int, lt_int, le_int, gt_int, ge_int, int_int, len_lst, len_tup, len_fls, idx_lst, idx_tup, idx_dicS, idx_dicI, eFld, eMeth, sFldM, gFld, gSubM, eGet2, ePop2, eChain, i_at, eq_self, l_num, l_base, l_sp, l_held, l_words, p_sp, f_len5, l_m0, l_m1, l_m2, l_m3, l_m4, l_m5, l_m6, l_m7, l_m8, l_m9, m_h, m_w, m_i, m_seth, m_setw, m_seti, look_h, look_w, d_dV, dm_h, dm_w, put_w, put_h, drop_w, eq_any, eq_out, dicOf, locDic, toKey, v_STACK, v_GOES_ON, v_OFF_STACK, v_WILD, v_MOST_WORDS, v_RETURN, v_END, Nat.reduceLT, eqs, ine, Option.map_some, Option.map_none, Option.getD_some, Option.getD_none, f_q_Machine_address, b_q_Machine_address, rg_sp, e, dV, aim, c, show ∀ x y z : D, atI [x, y, z] 0 = some x from fun _ _ _ => rfl, show ∀ x y z : D, atI [x, y, z] 1 = some y from fun _ _ _ => rfl, show ∀ x y z : D, atI [x, y, z] 2 = some z from fun _ _ _ => rfl, decide_true, decide_false]
  | fst r => simp (disch := omega) only [fnM, startE, finR, List.length_cons, List.length_nil, List.map_cons, List.map_nil, if_true, if_false, sSeq, sBind, sAsg, sRet, sRetN, sNil, sIf, sExpr, sPar, bindE, eOp, eVar, eC, eCallB, eCall, eCons, eNil, eTup, eLst, eIf, vAnd, vOr, vNot, bAnd, bOr, bNot, asB, liftO, gVar, onlyN, List.replicate, List.append_nil, List.cons_append, List.nil_append, List.getElem?_cons_zero, List.getElem?_cons_succ, List.set_cons_zero, List.set_cons_succ, Nat.reduceAdd, Nat.reduceSub, Nat.reduceLeDiff, Bool.false_eq_true, Bool.not_true, Bool.not_false, reduceIte, Nat.reduceEqDiff, d_int, d_str, d_bl, d_non, d_tup, d_ftp, d_lst, d_fls, d_dic, d_ty, d_locL, d_locD, add_int, sub_int, mul_int, mod_int, div_int, lt_int, le_int, gt_int, ge_int, int_int, len_lst, len_tup, len_fls, idx_lst, idx_tup, idx_dicS, idx_dicI, eFld, eMeth, sFldM, gFld, gSubM, eGet2, ePop2, eChain, i_at, eq_self, l_num, l_base, l_sp, l_held, l_words, p_sp, f_len5, l_m0, l_m1, l_m2, l_m3, l_m4, l_m5, l_m6, l_m7, l_m8, l_m9, m_h, m_w, m_i, m_seth, m_setw, m_seti, look_h, look_w, d_dV, dm_h, dm_w, put_w, put_h, drop_w, eq_any, eq_out, dicOf, locDic, toKey, v_STACK, v_GOES_ON, v_OFF_STACK, v_WILD, v_MOST_WORDS, v_RETURN, v_END, Nat.reduceLT, eqs, ine, Option.map_some, Option.map_none, Option.getD_some, Option.getD_none, f_q_Machine_address, b_q_Machine_address, rg_sp, e, dV, aim, show ∀ x y : D, atI [x, y] 0 = some x from fun _ _ => rfl, show decide (("first" : Str) = ("word" : Str)) = false from rfl]
  | any => simp (disch := omega) only [fnM, startE, finR, List.length_cons, List.length_nil, List.map_cons, List.map_nil, if_true, if_false, sSeq, sBind, sAsg, sRet, sRetN, sNil, sIf, sExpr, sPar, bindE, eOp, eVar, eC, eCallB, eCall, eCons, eNil, eTup, eLst, eIf, vAnd, vOr, vNot, bAnd, bOr, bNot, asB, liftO, gVar, onlyN, List.replicate, List.append_nil, List.cons_append, List.nil_append, List.getElem?_cons_zero, List.getElem?_cons_succ, List.set_cons_zero, List.set_cons_succ, Nat.reduceAdd, Nat.reduceSub, Nat.reduceLeDiff, Bool.false_eq_true, Bool.not_true, Bool.not_false, reduceIte, Nat.reduceEqDiff, d_int, d_str, d_bl, d_non, d_tup, d_ftp, d_lst, d_fls, d_dic, d_ty, d_locL, d_locD, add_int, sub_int, mul_int, mod_int, div_int, lt_int, le_int, gt_int, ge_int, int_int, len_lst, len_tup, len_fls, idx_lst, idx_tup, idx_dicS, idx_dicI, eFld, eMeth, sFldM, gFld, gSubM, eGet2, ePop2, eChain, i_at, eq_self, l_num, l_base, l_sp, l_held, l_words, p_sp, f_len5, l_m0, l_m1, l_m2, l_m3, l_m4, l_m5, l_m6, l_m7, l_m8, l_m9, m_h, m_w, m_i, m_seth, m_setw, m_seti, look_h, look_w, d_dV, dm_h, dm_w, put_w, put_h, drop_w, eq_any, eq_out, dicOf, locDic, toKey, v_STACK, v_GOES_ON, v_OFF_STACK, v_WILD, v_MOST_WORDS, v_RETURN, v_END, Nat.reduceLT, eqs, ine, Option.map_some, Option.map_none, Option.getD_some, Option.getD_none, f_q_Machine_address, b_q_Machine_address, rg_sp, e, dV, aim, show ∀ x : D, atI [x] 0 = some x from fun _ => rfl, show decide (("any" : Str) = ("word" : Str)) = false from rfl]
  | bck => simp (disch := omega) only [fnM, startE, finR, List.length_cons, List.length_nil, List.map_cons, List.map_nil, if_true, if_false, sSeq, sBind, sAsg, sRet, sRetN, sNil, sIf, sExpr, sPar, bindE, eOp, eVar, eC, eCallB, eCall, eCons, eNil, eTup, eLst, eIf, vAnd, vOr, vNot, bAnd, bOr, bNot, asB, liftO, gVar, onlyN, List.replicate, List.append_nil, List.cons_append, List.nil_append, List.getElem?_cons_zero, List.getElem?_cons_succ, List.set_cons_zero, List.set_cons_succ, Nat.reduceAdd, Nat.reduceSub, Nat.reduceLeDiff, Bool.false_eq_true, Bool.not_true, Bool.not_false, reduceIte, Nat.reduceEqDiff, d_int, d_str, d_bl, d_non, d_tup, d_ftp, d_lst, d_fls, d_dic, d_ty, d_locL, d_locD, add_int, sub_int, mul_int, mod_int, div_int, lt_int, le_int, gt_int, ge_int, int_int, len_lst, len_tup, len_fls, idx_lst, idx_tup, idx_dicS, idx_dicI, eFld, eMeth, sFldM, gFld, gSubM, eGet2, ePop2, eChain, i_at, eq_self, l_num, l_base, l_sp, l_held, l_words, p_sp, f_len5, l_m0, l_m1, l_m2, l_m3, l_m4, l_m5, l_m6, l_m7, l_m8, l_m9, m_h, m_w, m_i, m_seth, m_setw, m_seti, look_h, look_w, d_dV, dm_h, dm_w, put_w, put_h, drop_w, eq_any, eq_out, dicOf, locDic, toKey, v_STACK, v_GOES_ON, v_OFF_STACK, v_WILD, v_MOST_WORDS, v_RETURN, v_END, Nat.reduceLT, eqs, ine, Option.map_some, Option.map_none, Option.getD_some, Option.getD_none, f_q_Machine_address, b_q_Machine_address, rg_sp, e, dV, aim, show ∀ x y z : D, atI [x, y, z] 0 = some x from fun _ _ _ => rfl, show decide (("back" : Str) = ("word" : Str)) = false from rfl]
theorem drop_none {a : Int} : ∀ {w : Ws}, Ws.get w a = none → Ws.drop w a = w
  | [], _ => rfl
  | p :: r, q => by
    unfold Ws.get at q
    rw [List.find?_cons] at q
    by_cases c : p.1 = a
    · simp [c] at q
    · simp only [c, decide_false] at q
      have := drop_none (w := r) q
      unfold Ws.drop at this ⊢
      rw [List.filter_cons_of_pos (by simp [c]), this]
def setW (w : Ws) (a : Int) (v : Vl) : Ws := if isAny v = true then Ws.drop w a else Ws.put w a v
theorem set_word_eq (a : Int) (v : Vl) (hl : w.length < 1000) : f_q_Machine_set_word [.loc (S.length + 2), .int a, dV v] (mst S num base sp h w) = .ok .non (mst S num base sp h (setW w a v)) := by
  have hln : (Ws.d w).length < cap := by simp only [Ws.d, List.length_map]; exact Nat.lt_trans hl (by decide)
  have hst : ∀ e, stIx (mst S num base sp h w) e (.loc (S.length + 1)) (.int a) (dV v) = .nx e (mst S num base sp h (Ws.put w a v)) := fun e => by
    simp only [stIx, m_w, toKey]
    rw [if_pos hln, put_w, m_setw]
  cases c : isAny v
  · simp (disch := omega) only [fnM, startE, finR, List.length_cons, List.length_nil, List.map_cons, List.map_nil, if_true, if_false, sSeq, sBind, sAsg, sRet, sRetN, sNil, sIf, sExpr, sPar, bindE, eOp, eVar, eC, eCallB, eCall, eCons, eNil, eTup, eLst, eIf, vAnd, vOr, vNot, bAnd, bOr, bNot, asB, liftO, gVar, onlyN, List.replicate, List.append_nil, List.cons_append, List.nil_append, List.getElem?_cons_zero, List.getElem?_cons_succ, List.set_cons_zero, List.set_cons_succ, Nat.reduceAdd, Nat.reduceSub, Nat.reduceLeDiff, Bool.false_eq_true, Bool.not_true, Bool.not_false, reduceIte, Nat.reduceEqDiff, d_int, d_str, d_bl, d_non, d_tup, d_ftp, d_lst, d_fls, d_dic, d_ty, d_locL, d_locD, add_int, sub_int, mul_int, mod_int, div_int, lt_int, le_int, gt_int, ge_int, int_int, len_lst, len_tup, len_fls, idx_lst, idx_tup, idx_dicS, idx_dicI, eFld, eMeth, sFldM, gFld, gSubM, eGet2, ePop2, eChain, i_at, eq_self, l_num, l_base, l_sp, l_held, l_words, p_sp, f_len5, l_m0, l_m1, l_m2, l_m3, l_m4, l_m5, l_m6, l_m7, l_m8, l_m9, m_h, m_w, m_i, m_seth, m_setw, m_seti, look_h, look_w, d_dV, dm_h, dm_w, put_w, put_h, drop_w, eq_any, eq_out, dicOf, locDic, toKey, v_STACK, v_GOES_ON, v_OFF_STACK, v_WILD, v_MOST_WORDS, v_RETURN, v_END, Nat.reduceLT, eqs, ine, Option.map_some, Option.map_none, Option.getD_some, Option.getD_none, f_q_Machine_set_word, b_q_Machine_set_word, show ∀ x : Sto, deref x v_ANY = v_ANY from fun _ => rfl, c, setW, hst]
  · cases q : Ws.get w a with
    | none => simp (disch := omega) only [fnM, startE, finR, List.length_cons, List.length_nil, List.map_cons, List.map_nil, if_true, if_false, sSeq, sBind, sAsg, sRet, sRetN, sNil, sIf, sExpr, sPar, bindE, eOp, eVar, eC, eCallB, eCall, eCons, eNil, eTup, eLst, eIf, vAnd, vOr, vNot, bAnd, bOr, bNot, asB, liftO, gVar, onlyN, List.replicate, List.append_nil, List.cons_append, List.nil_append, List.getElem?_cons_zero, List.getElem?_cons_succ, List.set_cons_zero, List.set_cons_succ, Nat.reduceAdd, Nat.reduceSub, Nat.reduceLeDiff, Bool.false_eq_true, Bool.not_true, Bool.not_false, reduceIte, Nat.reduceEqDiff, d_int, d_str, d_bl, d_non, d_tup, d_ftp, d_lst, d_fls, d_dic, d_ty, d_locL, d_locD, add_int, sub_int, mul_int, mod_int, div_int, lt_int, le_int, gt_int, ge_int, int_int, len_lst, len_tup, len_fls, idx_lst, idx_tup, idx_dicS, idx_dicI, eFld, eMeth, sFldM, gFld, gSubM, eGet2, ePop2, eChain, i_at, eq_self, l_num, l_base, l_sp, l_held, l_words, p_sp, f_len5, l_m0, l_m1, l_m2, l_m3, l_m4, l_m5, l_m6, l_m7, l_m8, l_m9, m_h, m_w, m_i, m_seth, m_setw, m_seti, look_h, look_w, d_dV, dm_h, dm_w, put_w, put_h, drop_w, eq_any, eq_out, dicOf, locDic, toKey, v_STACK, v_GOES_ON, v_OFF_STACK, v_WILD, v_MOST_WORDS, v_RETURN, v_END, Nat.reduceLT, eqs, ine, Option.map_some, Option.map_none, Option.getD_some, Option.getD_none, f_q_Machine_set_word, b_q_Machine_set_word, show ∀ x : Sto, deref x v_ANY = v_ANY from fun _ => rfl, c, setW, hst, q, drop_none q]
    | some u => simp (disch := omega) only [fnM, startE, finR, List.length_cons, List.length_nil, List.map_cons, List.map_nil, if_true, if_false, sSeq, sBind, sAsg, sRet, sRetN, sNil, sIf, sExpr, sPar, bindE, eOp, eVar, eC, eCallB, eCall, eCons, eNil, eTup, eLst, eIf, vAnd, vOr, vNot, bAnd, bOr, bNot, asB, liftO, gVar, onlyN, List.replicate, List.append_nil, List.cons_append, List.nil_append, List.getElem?_cons_zero, List.getElem?_cons_succ, List.set_cons_zero, List.set_cons_succ, Nat.reduceAdd, Nat.reduceSub, Nat.reduceLeDiff, Bool.false_eq_true, Bool.not_true, Bool.not_false, reduceIte, Nat.reduceEqDiff, d_int, d_str, d_bl, d_non, d_tup, d_ftp, d_lst, d_fls, d_dic, d_ty, d_locL, d_locD, add_int, sub_int, mul_int, mod_int, div_int, lt_int, le_int, gt_int, ge_int, int_int, len_lst, len_tup, len_fls, idx_lst, idx_tup, idx_dicS, idx_dicI, eFld, eMeth, sFldM, gFld, gSubM, eGet2, ePop2, eChain, i_at, eq_self, l_num, l_base, l_sp, l_held, l_words, p_sp, f_len5, l_m0, l_m1, l_m2, l_m3, l_m4, l_m5, l_m6, l_m7, l_m8, l_m9, m_h, m_w, m_i, m_seth, m_setw, m_seti, look_h, look_w, d_dV, dm_h, dm_w, put_w, put_h, drop_w, eq_any, eq_out, dicOf, locDic, toKey, v_STACK, v_GOES_ON, v_OFF_STACK, v_WILD, v_MOST_WORDS, v_RETURN, v_END, Nat.reduceLT, eqs, ine, Option.map_some, Option.map_none, Option.getD_some, Option.getD_none, f_q_Machine_set_word, b_q_Machine_set_word, show ∀ x : Sto, deref x v_ANY = v_ANY from fun _ => rfl, c, setW, hst, q]
end
end U
set_option Elab.async false
set_option linter.all false
set_option maxRecDepth 100000
set_option maxHeartbeats 4000000
namespace U
open PySem Sh L2
/-! ### instructions -/
inductive Bs where
  | sp | rg (g : Rg)
deriving DecidableEq
def Bs.n : Bs → Str
  | .sp => "sp"
  | .rg g => g.n
inductive Ins where
  | push (g : Rg) | pop (g : Rg) | grow (n : Int) | shrink (n : Int) | move (a b : Rg) | point (a : Rg) (n : Int) | setsp (a : Rg) (n : Int) | work (a : Rg)
  | store (b : Bs) (n : Int) (a : Rg) | load (a : Rg) (b : Bs) (n : Int) | call (x : Str) | jump (i : Int) | branch (i : Int) | ret
def dI : Ins → D
  | .push g => .tup [.str "push", .str g.n]
  | .pop g => .tup [.str "pop", .str g.n]
  | .grow n => .tup [.str "grow", .int n]
  | .shrink n => .tup [.str "shrink", .int n]
  | .move a b => .tup [.str "move", .str a.n, .str b.n]
  | .point a n => .tup [.str "point", .str a.n, .int n]
  | .setsp a n => .tup [.str "setsp", .str a.n, .int n]
  | .work a => .tup [.str "work", .str a.n]
  | .store b n a => .tup [.str "store", .str b.n, .int n, .str a.n]
  | .load a b n => .tup [.str "load", .str a.n, .str b.n, .int n]
  | .call x => .tup [.str "call", .str x]
  | .jump i => .tup [.str "jump", .int i]
  | .branch i => .tup [.str "branch", .int i]
  | .ret => .tup [.str "return"]
/-- a machine -/
structure Mc where
  num : Int
  base : Int
  sp : Int
  h : Hd
  w : Ws
abbrev ms (S : Sto) (m : Mc) : Sto := mst S m.num m.base m.sp m.h m.w
def Mc.adr (m : Mc) : Bs → Option Int
  | .sp => some m.sp
  | .rg g => match m.h.get g with
    | .wrd n a => if n = m.num then some a else none
    | _ => none
def oI : Option Int → D
  | some a => .int a
  | none => .non
def Mc.go (m : Mc) (a : Int) : Str × Mc := if on m.base a = true then ("", { m with sp := a }) else ("sp", m)
def Mc.exec (m : Mc) : Ins → Str × Mc
  | .push g => if on m.base (m.sp - 1) = true then ("", { m with sp := m.sp - 1, w := setW m.w (m.sp - 1) (m.h.get g) }) else ("sp", m)
  | .pop g => if on m.base (m.sp + 1) = true then ("", { m with sp := m.sp + 1, h := m.h.set g ((Ws.get m.w m.sp).getD .any) }) else ("sp", m)
  | .grow n => m.go (m.sp - n)
  | .shrink n => m.go (m.sp + n)
  | .setsp g n => match m.adr (.rg g) with
    | none => ("wild", m)
    | some a => m.go (a + n)
  | .store b n g => match m.adr b with
    | none => ("wild", m)
    | some a => if on m.base (a + n) = true then ("", { m with w := setW m.w (a + n) (m.h.get g) }) else ("wild", m)
  | .load g b n => match m.adr b with
    | none => ("wild", m)
    | some a => if on m.base (a + n) = true then ("", { m with h := m.h.set g ((Ws.get m.w (a + n)).getD .any) }) else ("wild", m)
  | .move a b => ("", { m with h := m.h.set a (m.h.get b) })
  | .point a n => ("", { m with h := m.h.set a (.wrd m.num (m.sp + n)) })
  | .work a => ("", { m with h := m.h.set a .any })
  | .call _ => ("", { m with h := (m.h.set .x .any).set .y .any, w := m.w.filter fun p => decide (m.sp ≤ p.1) })
  | _ => ("", m)
section
variable {a b c d e : D}
theorem atI1_0 : atI [a] 0 = some a := rfl
theorem atI2_0 : atI [a, b] 0 = some a := rfl
theorem atI2_1 : atI [a, b] 1 = some b := rfl
theorem atI3_0 : atI [a, b, c] 0 = some a := rfl
theorem atI3_1 : atI [a, b, c] 1 = some b := rfl
theorem atI3_2 : atI [a, b, c] 2 = some c := rfl
theorem atI4_0 : atI [a, b, c, d] 0 = some a := rfl
theorem atI4_1 : atI [a, b, c, d] 1 = some b := rfl
theorem atI4_2 : atI [a, b, c, d] 2 = some c := rfl
theorem atI4_3 : atI [a, b, c, d] 3 = some d := rfl
end
theorem gEqT {a : Str} : gEq (.str a) (.str a) = some (.bl true) := by simp [gEq, eqG]
/-- one of some texts -/
def isS : D → Bool
  | .str _ => true
  | _ => false
def strIn (x : Str) : List D → Bool
  | [] => false
  | .str y :: r => decide (x = y) || strIn x r
  | _ :: r => strIn x r
theorem in_str {x : Str} {l : List D} (h : l.all isS = true) : gIn (.str x) (.tup l) = some (.bl (strIn x l)) := by
  have h1 : l.all flatD = true := by
    rw [List.all_eq_true] at h ⊢
    intro d hd
    have := h d hd
    cases d <;> first | rfl | cases this
  have h2 : (l.any fun y => eqF y (.str x)) = strIn x l := by
    clear h1
    induction l with
    | nil => rfl
    | cons d r ih =>
      rw [List.all_cons, Bool.and_eq_true] at h
      rw [List.any_cons, ih h.2]
      cases d with
      | str y =>
        show (y == x || _) = (decide (x = y) || _)
        congr 1
        rw [Bool.eq_iff_iff, beq_iff_eq, decide_eq_true_iff]
        exact eq_comm
      | _ => cases h.1
  show (if flatD (.str x) && l.all flatD then some (D.bl (false ^^ l.any fun y => eqF y (.str x))) else none) = _
  rw [h1, h2]
  simp [flatD]
theorem is_non : gIs .non .non = some (.bl true) := rfl
theorem is_int {i : Int} : gIs (.int i) .non = some (.bl false) := rfl
theorem neg_int {i : Int} : gNeg (.int i) = some (.int (-i)) := rfl
theorem d_out {S : Sto} : deref S v_OUT = v_OUT := rfl
theorem d_any {S : Sto} : deref S v_ANY = v_ANY := rfl
theorem gd_any {o : Option Vl} : (o.map dV).getD v_ANY = dV (o.getD .any) := by cases o <;> rfl
section
variable {S : Sto} {num base sp : Int} {h : Hd} {w : Ws} {e : Sh.Env}
theorem st_h {g : Rg} {v : Vl} : stIx (mst S num base sp h w) e (.loc S.length) (.str g.n) (dV v) = .nx e (mst S num base sp (h.set g v) w) := by
  simp only [stIx, m_h, toKey]
  rw [if_pos (show h.d.length < cap by show 6 < 100000; decide), put_h, m_seth]
theorem st_hA {g : Rg} : stIx (mst S num base sp h w) e (.loc S.length) (.str g.n) v_ANY = .nx e (mst S num base sp (h.set g .any) w) := st_h (v := .any)
end
section
variable {S : Sto} {m : Mc}
theorem adr_eq (b : Bs) : f_q_Machine_address [.loc (S.length + 2), .str b.n] (ms S m) = .ok (oI (m.adr b)) (ms S m) := by
  cases b with
  | sp => exact addr_sp
  | rg g =>
    refine (addr_rg g).trans ?_
    cases q : m.h.get g with
    | wrd n a =>
      by_cases c : n = m.num
      · simp only [aim, Mc.adr, q, c, if_true, oI]
      · simp only [aim, Mc.adr, q, c, if_false, oI]
    | _ => simp only [aim, Mc.adr, q, oI]
theorem go_eq (a : Int) : f_q_Machine_move_sp [.loc (S.length + 2), .int a] (ms S m) = .ok (.str (m.go a).1) (ms S (m.go a).2) := by
  refine (move_eq a).trans ?_
  unfold Mc.go
  by_cases c : on m.base a = true
  · simp only [c, if_true]
  · simp only [c, if_false]; rfl
theorem go_in (a : Int) : ((m.go a).1 = "" ∧ (m.go a).2 = { m with sp := a } ∧ on m.base a = true) ∨ ((m.go a).1 = "sp" ∧ (m.go a).2 = m ∧ on m.base a = false) := by
  unfold Mc.go
  cases c : on m.base a
  · right; simp
  · left; simp
def stk : Ins → Bool
  | .push _ | .pop _ | .grow _ | .shrink _ | .setsp _ _ => true
  | _ => false
theorem do_stack_eq (i : Ins) (hi : stk i = true) (hl : m.w.length < 1000) : f_q_Machine_do_stack [.loc (S.length + 2), dI i] (ms S m) = .ok (.str (m.exec i).1) (ms S (m.exec i).2) := by
  cases i with
  | push g =>
    rcases go_in (m := m) (m.sp - 1) with ⟨h1, h2, h3⟩ | ⟨h1, h2, h3⟩
    · simp (disch := first | omega | decide) only [fnM, startE, finR, List.length_cons, List.length_nil, List.map_cons, List.map_nil, if_true, if_false, sSeq, sBind, sAsg, sRet, sRetN, sNil, sIf, sExpr, sPar, bindE, eOp, eVar, eC, eCallB, eCall, eCons, eNil, eTup, eLst, eIf, vAnd, vOr, vNot, bAnd, bOr, bNot, asB, liftO, gVar, onlyN, List.replicate, List.append_nil, List.cons_append, List.nil_append, List.getElem?_cons_zero, List.getElem?_cons_succ, List.set_cons_zero, List.set_cons_succ, Nat.reduceAdd, Nat.reduceSub, Nat.reduceLeDiff, Bool.false_eq_true, Bool.not_true, Bool.not_false, reduceIte, Nat.reduceEqDiff, d_int, d_str, d_bl, d_non, d_tup, d_ftp, d_lst, d_fls, d_dic, d_ty, d_locL, d_locD, add_int, sub_int, mul_int, mod_int, div_int, lt_int, le_int, gt_int, ge_int, int_int, len_lst, len_tup, len_fls, idx_lst, idx_tup, idx_dicS, idx_dicI, eFld, eMeth, sFldM, gFld, gSubM, eGet2, ePop2, eChain, i_at, eq_self, l_num, l_base, l_sp, l_held, l_words, p_sp, f_len5, l_m0, l_m1, l_m2, l_m3, l_m4, l_m5, l_m6, l_m7, l_m8, l_m9, m_h, m_w, m_i, m_seth, m_setw, m_seti, look_h, look_w, d_dV, dm_h, dm_w, put_w, put_h, drop_w, eq_any, eq_out, dicOf, locDic, toKey, v_STACK, v_GOES_ON, v_OFF_STACK, v_WILD, v_MOST_WORDS, v_RETURN, v_END, Nat.reduceLT, eqs, ine, atI2_0, atI2_1, atI3_0, atI3_1, atI3_2, atI4_0, atI4_1, atI4_2, atI4_3, atI1_0, decide_true, decide_false, decide_eq_false, gEqT, in_str, isS, strIn, Bool.or_false, Bool.false_or, Bool.true_or, Bool.or_true, Bool.and_true, Bool.true_and, Bool.and_false, Bool.false_and, List.all_cons, List.all_nil, nes, is_non, is_int, eUn, neg_int, gB, bTup, bMore, bVar, bNone, Option.bind_some, st_h, st_hA, gd_any, d_out, d_any, f_q_Machine_do_stack, b_q_Machine_do_stack, dI, go_eq, h1, h2, h3, set_word_eq, Mc.exec]
    · simp (disch := first | omega | decide) only [fnM, startE, finR, List.length_cons, List.length_nil, List.map_cons, List.map_nil, if_true, if_false, sSeq, sBind, sAsg, sRet, sRetN, sNil, sIf, sExpr, sPar, bindE, eOp, eVar, eC, eCallB, eCall, eCons, eNil, eTup, eLst, eIf, vAnd, vOr, vNot, bAnd, bOr, bNot, asB, liftO, gVar, onlyN, List.replicate, List.append_nil, List.cons_append, List.nil_append, List.getElem?_cons_zero, List.getElem?_cons_succ, List.set_cons_zero, List.set_cons_succ, Nat.reduceAdd, Nat.reduceSub, Nat.reduceLeDiff, Bool.false_eq_true, Bool.not_true, Bool.not_false, reduceIte, Nat.reduceEqDiff, d_int, d_str, d_bl, d_non, d_tup, d_ftp, d_lst, d_fls, d_dic, d_ty, d_locL, d_locD, add_int, sub_int, mul_int, mod_int, div_int, lt_int, le_int, gt_int, ge_int, int_int, len_lst, len_tup, len_fls, idx_lst, idx_tup, idx_dicS, idx_dicI, eFld, eMeth, sFldM, gFld, gSubM, eGet2, ePop2, eChain, i_at, eq_self, l_num, l_base, l_sp, l_held, l_words, p_sp, f_len5, l_m0, l_m1, l_m2, l_m3, l_m4, l_m5, l_m6, l_m7, l_m8, l_m9, m_h, m_w, m_i, m_seth, m_setw, m_seti, look_h, look_w, d_dV, dm_h, dm_w, put_w, put_h, drop_w, eq_any, eq_out, dicOf, locDic, toKey, v_STACK, v_GOES_ON, v_OFF_STACK, v_WILD, v_MOST_WORDS, v_RETURN, v_END, Nat.reduceLT, eqs, ine, atI2_0, atI2_1, atI3_0, atI3_1, atI3_2, atI4_0, atI4_1, atI4_2, atI4_3, atI1_0, decide_true, decide_false, decide_eq_false, gEqT, in_str, isS, strIn, Bool.or_false, Bool.false_or, Bool.true_or, Bool.or_true, Bool.and_true, Bool.true_and, Bool.and_false, Bool.false_and, List.all_cons, List.all_nil, nes, is_non, is_int, eUn, neg_int, gB, bTup, bMore, bVar, bNone, Option.bind_some, st_h, st_hA, gd_any, d_out, d_any, f_q_Machine_do_stack, b_q_Machine_do_stack, dI, go_eq, h1, h2, h3, set_word_eq, Mc.exec]
  | pop g =>
    rcases go_in (m := m) (m.sp + 1) with ⟨h1, h2, h3⟩ | ⟨h1, h2, h3⟩
    · simp (disch := first | omega | decide) only [fnM, startE, finR, List.length_cons, List.length_nil, List.map_cons, List.map_nil, if_true, if_false, sSeq, sBind, sAsg, sRet, sRetN, sNil, sIf, sExpr, sPar, bindE, eOp, eVar, eC, eCallB, eCall, eCons, eNil, eTup, eLst, eIf, vAnd, vOr, vNot, bAnd, bOr, bNot, asB, liftO, gVar, onlyN, List.replicate, List.append_nil, List.cons_append, List.nil_append, List.getElem?_cons_zero, List.getElem?_cons_succ, List.set_cons_zero, List.set_cons_succ, Nat.reduceAdd, Nat.reduceSub, Nat.reduceLeDiff, Bool.false_eq_true, Bool.not_true, Bool.not_false, reduceIte, Nat.reduceEqDiff, d_int, d_str, d_bl, d_non, d_tup, d_ftp, d_lst, d_fls, d_dic, d_ty, d_locL, d_locD, add_int, sub_int, mul_int, mod_int, div_int, lt_int, le_int, gt_int, ge_int, int_int, len_lst, len_tup, len_fls, idx_lst, idx_tup, idx_dicS, idx_dicI, eFld, eMeth, sFldM, gFld, gSubM, eGet2, ePop2, eChain, i_at, eq_self, l_num, l_base, l_sp, l_held, l_words, p_sp, f_len5, l_m0, l_m1, l_m2, l_m3, l_m4, l_m5, l_m6, l_m7, l_m8, l_m9, m_h, m_w, m_i, m_seth, m_setw, m_seti, look_h, look_w, d_dV, dm_h, dm_w, put_w, put_h, drop_w, eq_any, eq_out, dicOf, locDic, toKey, v_STACK, v_GOES_ON, v_OFF_STACK, v_WILD, v_MOST_WORDS, v_RETURN, v_END, Nat.reduceLT, eqs, ine, atI2_0, atI2_1, atI3_0, atI3_1, atI3_2, atI4_0, atI4_1, atI4_2, atI4_3, atI1_0, decide_true, decide_false, decide_eq_false, gEqT, in_str, isS, strIn, Bool.or_false, Bool.false_or, Bool.true_or, Bool.or_true, Bool.and_true, Bool.true_and, Bool.and_false, Bool.false_and, List.all_cons, List.all_nil, nes, is_non, is_int, eUn, neg_int, gB, bTup, bMore, bVar, bNone, Option.bind_some, st_h, st_hA, gd_any, d_out, d_any, f_q_Machine_do_stack, b_q_Machine_do_stack, dI, go_eq, h1, h2, h3, set_word_eq, Mc.exec]
    · simp (disch := first | omega | decide) only [fnM, startE, finR, List.length_cons, List.length_nil, List.map_cons, List.map_nil, if_true, if_false, sSeq, sBind, sAsg, sRet, sRetN, sNil, sIf, sExpr, sPar, bindE, eOp, eVar, eC, eCallB, eCall, eCons, eNil, eTup, eLst, eIf, vAnd, vOr, vNot, bAnd, bOr, bNot, asB, liftO, gVar, onlyN, List.replicate, List.append_nil, List.cons_append, List.nil_append, List.getElem?_cons_zero, List.getElem?_cons_succ, List.set_cons_zero, List.set_cons_succ, Nat.reduceAdd, Nat.reduceSub, Nat.reduceLeDiff, Bool.false_eq_true, Bool.not_true, Bool.not_false, reduceIte, Nat.reduceEqDiff, d_int, d_str, d_bl, d_non, d_tup, d_ftp, d_lst, d_fls, d_dic, d_ty, d_locL, d_locD, add_int, sub_int, mul_int, mod_int, div_int, lt_int, le_int, gt_int, ge_int, int_int, len_lst, len_tup, len_fls, idx_lst, idx_tup, idx_dicS, idx_dicI, eFld, eMeth, sFldM, gFld, gSubM, eGet2, ePop2, eChain, i_at, eq_self, l_num, l_base, l_sp, l_held, l_words, p_sp, f_len5, l_m0, l_m1, l_m2, l_m3, l_m4, l_m5, l_m6, l_m7, l_m8, l_m9, m_h, m_w, m_i, m_seth, m_setw, m_seti, look_h, look_w, d_dV, dm_h, dm_w, put_w, put_h, drop_w, eq_any, eq_out, dicOf, locDic, toKey, v_STACK, v_GOES_ON, v_OFF_STACK, v_WILD, v_MOST_WORDS, v_RETURN, v_END, Nat.reduceLT, eqs, ine, atI2_0, atI2_1, atI3_0, atI3_1, atI3_2, atI4_0, atI4_1, atI4_2, atI4_3, atI1_0, decide_true, decide_false, decide_eq_false, gEqT, in_str, isS, strIn, Bool.or_false, Bool.false_or, Bool.true_or, Bool.or_true, Bool.and_true, Bool.true_and, Bool.and_false, Bool.false_and, List.all_cons, List.all_nil, nes, is_non, is_int, eUn, neg_int, gB, bTup, bMore, bVar, bNone, Option.bind_some, st_h, st_hA, gd_any, d_out, d_any, f_q_Machine_do_stack, b_q_Machine_do_stack, dI, go_eq, h1, h2, h3, set_word_eq, Mc.exec]
  | grow n => simp (disch := first | omega | decide) only [fnM, startE, finR, List.length_cons, List.length_nil, List.map_cons, List.map_nil, if_true, if_false, sSeq, sBind, sAsg, sRet, sRetN, sNil, sIf, sExpr, sPar, bindE, eOp, eVar, eC, eCallB, eCall, eCons, eNil, eTup, eLst, eIf, vAnd, vOr, vNot, bAnd, bOr, bNot, asB, liftO, gVar, onlyN, List.replicate, List.append_nil, List.cons_append, List.nil_append, List.getElem?_cons_zero, List.getElem?_cons_succ, List.set_cons_zero, List.set_cons_succ, Nat.reduceAdd, Nat.reduceSub, Nat.reduceLeDiff, Bool.false_eq_true, Bool.not_true, Bool.not_false, reduceIte, Nat.reduceEqDiff, d_int, d_str, d_bl, d_non, d_tup, d_ftp, d_lst, d_fls, d_dic, d_ty, d_locL, d_locD, add_int, sub_int, mul_int, mod_int, div_int, lt_int, le_int, gt_int, ge_int, int_int, len_lst, len_tup, len_fls, idx_lst, idx_tup, idx_dicS, idx_dicI, eFld, eMeth, sFldM, gFld, gSubM, eGet2, ePop2, eChain, i_at, eq_self, l_num, l_base, l_sp, l_held, l_words, p_sp, f_len5, l_m0, l_m1, l_m2, l_m3, l_m4, l_m5, l_m6, l_m7, l_m8, l_m9, m_h, m_w, m_i, m_seth, m_setw, m_seti, look_h, look_w, d_dV, dm_h, dm_w, put_w, put_h, drop_w, eq_any, eq_out, dicOf, locDic, toKey, v_STACK, v_GOES_ON, v_OFF_STACK, v_WILD, v_MOST_WORDS, v_RETURN, v_END, Nat.reduceLT, eqs, ine, atI2_0, atI2_1, atI3_0, atI3_1, atI3_2, atI4_0, atI4_1, atI4_2, atI4_3, atI1_0, decide_true, decide_false, decide_eq_false, gEqT, in_str, isS, strIn, Bool.or_false, Bool.false_or, Bool.true_or, Bool.or_true, Bool.and_true, Bool.true_and, Bool.and_false, Bool.false_and, List.all_cons, List.all_nil, nes, is_non, is_int, eUn, neg_int, gB, bTup, bMore, bVar, bNone, Option.bind_some, st_h, st_hA, gd_any, d_out, d_any, f_q_Machine_do_stack, b_q_Machine_do_stack, dI, go_eq, Mc.exec]
  | shrink n => simp (disch := first | omega | decide) only [fnM, startE, finR, List.length_cons, List.length_nil, List.map_cons, List.map_nil, if_true, if_false, sSeq, sBind, sAsg, sRet, sRetN, sNil, sIf, sExpr, sPar, bindE, eOp, eVar, eC, eCallB, eCall, eCons, eNil, eTup, eLst, eIf, vAnd, vOr, vNot, bAnd, bOr, bNot, asB, liftO, gVar, onlyN, List.replicate, List.append_nil, List.cons_append, List.nil_append, List.getElem?_cons_zero, List.getElem?_cons_succ, List.set_cons_zero, List.set_cons_succ, Nat.reduceAdd, Nat.reduceSub, Nat.reduceLeDiff, Bool.false_eq_true, Bool.not_true, Bool.not_false, reduceIte, Nat.reduceEqDiff, d_int, d_str, d_bl, d_non, d_tup, d_ftp, d_lst, d_fls, d_dic, d_ty, d_locL, d_locD, add_int, sub_int, mul_int, mod_int, div_int, lt_int, le_int, gt_int, ge_int, int_int, len_lst, len_tup, len_fls, idx_lst, idx_tup, idx_dicS, idx_dicI, eFld, eMeth, sFldM, gFld, gSubM, eGet2, ePop2, eChain, i_at, eq_self, l_num, l_base, l_sp, l_held, l_words, p_sp, f_len5, l_m0, l_m1, l_m2, l_m3, l_m4, l_m5, l_m6, l_m7, l_m8, l_m9, m_h, m_w, m_i, m_seth, m_setw, m_seti, look_h, look_w, d_dV, dm_h, dm_w, put_w, put_h, drop_w, eq_any, eq_out, dicOf, locDic, toKey, v_STACK, v_GOES_ON, v_OFF_STACK, v_WILD, v_MOST_WORDS, v_RETURN, v_END, Nat.reduceLT, eqs, ine, atI2_0, atI2_1, atI3_0, atI3_1, atI3_2, atI4_0, atI4_1, atI4_2, atI4_3, atI1_0, decide_true, decide_false, decide_eq_false, gEqT, in_str, isS, strIn, Bool.or_false, Bool.false_or, Bool.true_or, Bool.or_true, Bool.and_true, Bool.true_and, Bool.and_false, Bool.false_and, List.all_cons, List.all_nil, nes, is_non, is_int, eUn, neg_int, gB, bTup, bMore, bVar, bNone, Option.bind_some, st_h, st_hA, gd_any, d_out, d_any, f_q_Machine_do_stack, b_q_Machine_do_stack, dI, go_eq, Mc.exec]
  | setsp g n =>
    have ha := adr_eq (S := S) (m := m) (.rg g)
    simp only [Bs.n] at ha
    cases q : m.adr (.rg g) with
    | none => simp (disch := first | omega | decide) only [fnM, startE, finR, List.length_cons, List.length_nil, List.map_cons, List.map_nil, if_true, if_false, sSeq, sBind, sAsg, sRet, sRetN, sNil, sIf, sExpr, sPar, bindE, eOp, eVar, eC, eCallB, eCall, eCons, eNil, eTup, eLst, eIf, vAnd, vOr, vNot, bAnd, bOr, bNot, asB, liftO, gVar, onlyN, List.replicate, List.append_nil, List.cons_append, List.nil_append, List.getElem?_cons_zero, List.getElem?_cons_succ, List.set_cons_zero, List.set_cons_succ, Nat.reduceAdd, Nat.reduceSub, Nat.reduceLeDiff, Bool.false_eq_true, Bool.not_true, Bool.not_false, reduceIte, Nat.reduceEqDiff, d_int, d_str, d_bl, d_non, d_tup, d_ftp, d_lst, d_fls, d_dic, d_ty, d_locL, d_locD, add_int, sub_int, mul_int, mod_int, div_int, lt_int, le_int, gt_int, ge_int, int_int, len_lst, len_tup, len_fls, idx_lst, idx_tup, idx_dicS, idx_dicI, eFld, eMeth, sFldM, gFld, gSubM, eGet2, ePop2, eChain, i_at, eq_self, l_num, l_base, l_sp, l_held, l_words, p_sp, f_len5, l_m0, l_m1, l_m2, l_m3, l_m4, l_m5, l_m6, l_m7, l_m8, l_m9, m_h, m_w, m_i, m_seth, m_setw, m_seti, look_h, look_w, d_dV, dm_h, dm_w, put_w, put_h, drop_w, eq_any, eq_out, dicOf, locDic, toKey, v_STACK, v_GOES_ON, v_OFF_STACK, v_WILD, v_MOST_WORDS, v_RETURN, v_END, Nat.reduceLT, eqs, ine, atI2_0, atI2_1, atI3_0, atI3_1, atI3_2, atI4_0, atI4_1, atI4_2, atI4_3, atI1_0, decide_true, decide_false, decide_eq_false, gEqT, in_str, isS, strIn, Bool.or_false, Bool.false_or, Bool.true_or, Bool.or_true, Bool.and_true, Bool.true_and, Bool.and_false, Bool.false_and, List.all_cons, List.all_nil, nes, is_non, is_int, eUn, neg_int, gB, bTup, bMore, bVar, bNone, Option.bind_some, st_h, st_hA, gd_any, d_out, d_any, f_q_Machine_do_stack, b_q_Machine_do_stack, dI, go_eq, ha, q, oI, Mc.exec]
    | some a => simp (disch := first | omega | decide) only [fnM, startE, finR, List.length_cons, List.length_nil, List.map_cons, List.map_nil, if_true, if_false, sSeq, sBind, sAsg, sRet, sRetN, sNil, sIf, sExpr, sPar, bindE, eOp, eVar, eC, eCallB, eCall, eCons, eNil, eTup, eLst, eIf, vAnd, vOr, vNot, bAnd, bOr, bNot, asB, liftO, gVar, onlyN, List.replicate, List.append_nil, List.cons_append, List.nil_append, List.getElem?_cons_zero, List.getElem?_cons_succ, List.set_cons_zero, List.set_cons_succ, Nat.reduceAdd, Nat.reduceSub, Nat.reduceLeDiff, Bool.false_eq_true, Bool.not_true, Bool.not_false, reduceIte, Nat.reduceEqDiff, d_int, d_str, d_bl, d_non, d_tup, d_ftp, d_lst, d_fls, d_dic, d_ty, d_locL, d_locD, add_int, sub_int, mul_int, mod_int, div_int, lt_int, le_int, gt_int, ge_int, int_int, len_lst, len_tup, len_fls, idx_lst, idx_tup, idx_dicS, idx_dicI, eFld, eMeth, sFldM, gFld, gSubM, eGet2, ePop2, eChain, i_at, eq_self, l_num, l_base, l_sp, l_held, l_words, p_sp, f_len5, l_m0, l_m1, l_m2, l_m3, l_m4, l_m5, l_m6, l_m7, l_m8, l_m9, m_h, m_w, m_i, m_seth, m_setw, m_seti, look_h, look_w, d_dV, dm_h, dm_w, put_w, put_h, drop_w, eq_any, eq_out, dicOf, locDic, toKey, v_STACK, v_GOES_ON, v_OFF_STACK, v_WILD, v_MOST_WORDS, v_RETURN, v_END, Nat.reduceLT, eqs, ine, atI2_0, atI2_1, atI3_0, atI3_1, atI3_2, atI4_0, atI4_1, atI4_2, atI4_3, atI1_0, decide_true, decide_false, decide_eq_false, gEqT, in_str, isS, strIn, Bool.or_false, Bool.false_or, Bool.true_or, Bool.or_true, Bool.and_true, Bool.true_and, Bool.and_false, Bool.false_and, List.all_cons, List.all_nil, nes, is_non, is_int, eUn, neg_int, gB, bTup, bMore, bVar, bNone, Option.bind_some, st_h, st_hA, gd_any, d_out, d_any, f_q_Machine_do_stack, b_q_Machine_do_stack, dI, go_eq, ha, q, oI, Mc.exec]
  | _ => cases hi
def memo : Ins → Bool
  | .store _ _ _ | .load _ _ _ => true
  | _ => false
theorem do_memory_eq (i : Ins) (hi : memo i = true) (hl : m.w.length < 1000) : f_q_Machine_do_memory [.loc (S.length + 2), dI i] (ms S m) = .ok (.str (m.exec i).1) (ms S (m.exec i).2) := by
  cases i with
  | store b n g =>
    have ha := adr_eq (S := S) (m := m) b
    cases q : m.adr b with
    | none => simp (disch := first | omega | decide) only [fnM, startE, finR, List.length_cons, List.length_nil, List.map_cons, List.map_nil, if_true, if_false, sSeq, sBind, sAsg, sRet, sRetN, sNil, sIf, sExpr, sPar, bindE, eOp, eVar, eC, eCallB, eCall, eCons, eNil, eTup, eLst, eIf, vAnd, vOr, vNot, bAnd, bOr, bNot, asB, liftO, gVar, onlyN, List.replicate, List.append_nil, List.cons_append, List.nil_append, List.getElem?_cons_zero, List.getElem?_cons_succ, List.set_cons_zero, List.set_cons_succ, Nat.reduceAdd, Nat.reduceSub, Nat.reduceLeDiff, Bool.false_eq_true, Bool.not_true, Bool.not_false, reduceIte, Nat.reduceEqDiff, d_int, d_str, d_bl, d_non, d_tup, d_ftp, d_lst, d_fls, d_dic, d_ty, d_locL, d_locD, add_int, sub_int, mul_int, mod_int, div_int, lt_int, le_int, gt_int, ge_int, int_int, len_lst, len_tup, len_fls, idx_lst, idx_tup, idx_dicS, idx_dicI, eFld, eMeth, sFldM, gFld, gSubM, eGet2, ePop2, eChain, i_at, eq_self, l_num, l_base, l_sp, l_held, l_words, p_sp, f_len5, l_m0, l_m1, l_m2, l_m3, l_m4, l_m5, l_m6, l_m7, l_m8, l_m9, m_h, m_w, m_i, m_seth, m_setw, m_seti, look_h, look_w, d_dV, dm_h, dm_w, put_w, put_h, drop_w, eq_any, eq_out, dicOf, locDic, toKey, v_STACK, v_GOES_ON, v_OFF_STACK, v_WILD, v_MOST_WORDS, v_RETURN, v_END, Nat.reduceLT, eqs, ine, atI2_0, atI2_1, atI3_0, atI3_1, atI3_2, atI4_0, atI4_1, atI4_2, atI4_3, atI1_0, decide_true, decide_false, decide_eq_false, gEqT, in_str, isS, strIn, Bool.or_false, Bool.false_or, Bool.true_or, Bool.or_true, Bool.and_true, Bool.true_and, Bool.and_false, Bool.false_and, List.all_cons, List.all_nil, nes, is_non, is_int, eUn, neg_int, gB, bTup, bMore, bVar, bNone, Option.bind_some, st_h, st_hA, gd_any, d_out, d_any, f_q_Machine_do_memory, b_q_Machine_do_memory, dI, ha, q, oI, Mc.exec]
    | some a =>
      cases c : on m.base (a + n)
      · simp (disch := first | omega | decide) only [fnM, startE, finR, List.length_cons, List.length_nil, List.map_cons, List.map_nil, if_true, if_false, sSeq, sBind, sAsg, sRet, sRetN, sNil, sIf, sExpr, sPar, bindE, eOp, eVar, eC, eCallB, eCall, eCons, eNil, eTup, eLst, eIf, vAnd, vOr, vNot, bAnd, bOr, bNot, asB, liftO, gVar, onlyN, List.replicate, List.append_nil, List.cons_append, List.nil_append, List.getElem?_cons_zero, List.getElem?_cons_succ, List.set_cons_zero, List.set_cons_succ, Nat.reduceAdd, Nat.reduceSub, Nat.reduceLeDiff, Bool.false_eq_true, Bool.not_true, Bool.not_false, reduceIte, Nat.reduceEqDiff, d_int, d_str, d_bl, d_non, d_tup, d_ftp, d_lst, d_fls, d_dic, d_ty, d_locL, d_locD, add_int, sub_int, mul_int, mod_int, div_int, lt_int, le_int, gt_int, ge_int, int_int, len_lst, len_tup, len_fls, idx_lst, idx_tup, idx_dicS, idx_dicI, eFld, eMeth, sFldM, gFld, gSubM, eGet2, ePop2, eChain, i_at, eq_self, l_num, l_base, l_sp, l_held, l_words, p_sp, f_len5, l_m0, l_m1, l_m2, l_m3, l_m4, l_m5, l_m6, l_m7, l_m8, l_m9, m_h, m_w, m_i, m_seth, m_setw, m_seti, look_h, look_w, d_dV, dm_h, dm_w, put_w, put_h, drop_w, eq_any, eq_out, dicOf, locDic, toKey, v_STACK, v_GOES_ON, v_OFF_STACK, v_WILD, v_MOST_WORDS, v_RETURN, v_END, Nat.reduceLT, eqs, ine, atI2_0, atI2_1, atI3_0, atI3_1, atI3_2, atI4_0, atI4_1, atI4_2, atI4_3, atI1_0, decide_true, decide_false, decide_eq_false, gEqT, in_str, isS, strIn, Bool.or_false, Bool.false_or, Bool.true_or, Bool.or_true, Bool.and_true, Bool.true_and, Bool.and_false, Bool.false_and, List.all_cons, List.all_nil, nes, is_non, is_int, eUn, neg_int, gB, bTup, bMore, bVar, bNone, Option.bind_some, st_h, st_hA, gd_any, d_out, d_any, f_q_Machine_do_memory, b_q_Machine_do_memory, dI, ha, q, oI, Mc.exec, is_on_eq, c]
      · simp (disch := first | omega | decide) only [fnM, startE, finR, List.length_cons, List.length_nil, List.map_cons, List.map_nil, if_true, if_false, sSeq, sBind, sAsg, sRet, sRetN, sNil, sIf, sExpr, sPar, bindE, eOp, eVar, eC, eCallB, eCall, eCons, eNil, eTup, eLst, eIf, vAnd, vOr, vNot, bAnd, bOr, bNot, asB, liftO, gVar, onlyN, List.replicate, List.append_nil, List.cons_append, List.nil_append, List.getElem?_cons_zero, List.getElem?_cons_succ, List.set_cons_zero, List.set_cons_succ, Nat.reduceAdd, Nat.reduceSub, Nat.reduceLeDiff, Bool.false_eq_true, Bool.not_true, Bool.not_false, reduceIte, Nat.reduceEqDiff, d_int, d_str, d_bl, d_non, d_tup, d_ftp, d_lst, d_fls, d_dic, d_ty, d_locL, d_locD, add_int, sub_int, mul_int, mod_int, div_int, lt_int, le_int, gt_int, ge_int, int_int, len_lst, len_tup, len_fls, idx_lst, idx_tup, idx_dicS, idx_dicI, eFld, eMeth, sFldM, gFld, gSubM, eGet2, ePop2, eChain, i_at, eq_self, l_num, l_base, l_sp, l_held, l_words, p_sp, f_len5, l_m0, l_m1, l_m2, l_m3, l_m4, l_m5, l_m6, l_m7, l_m8, l_m9, m_h, m_w, m_i, m_seth, m_setw, m_seti, look_h, look_w, d_dV, dm_h, dm_w, put_w, put_h, drop_w, eq_any, eq_out, dicOf, locDic, toKey, v_STACK, v_GOES_ON, v_OFF_STACK, v_WILD, v_MOST_WORDS, v_RETURN, v_END, Nat.reduceLT, eqs, ine, atI2_0, atI2_1, atI3_0, atI3_1, atI3_2, atI4_0, atI4_1, atI4_2, atI4_3, atI1_0, decide_true, decide_false, decide_eq_false, gEqT, in_str, isS, strIn, Bool.or_false, Bool.false_or, Bool.true_or, Bool.or_true, Bool.and_true, Bool.true_and, Bool.and_false, Bool.false_and, List.all_cons, List.all_nil, nes, is_non, is_int, eUn, neg_int, gB, bTup, bMore, bVar, bNone, Option.bind_some, st_h, st_hA, gd_any, d_out, d_any, f_q_Machine_do_memory, b_q_Machine_do_memory, dI, ha, q, oI, Mc.exec, is_on_eq, c, set_word_eq]
  | load g b n =>
    have ha := adr_eq (S := S) (m := m) b
    cases q : m.adr b with
    | none => simp (disch := first | omega | decide) only [fnM, startE, finR, List.length_cons, List.length_nil, List.map_cons, List.map_nil, if_true, if_false, sSeq, sBind, sAsg, sRet, sRetN, sNil, sIf, sExpr, sPar, bindE, eOp, eVar, eC, eCallB, eCall, eCons, eNil, eTup, eLst, eIf, vAnd, vOr, vNot, bAnd, bOr, bNot, asB, liftO, gVar, onlyN, List.replicate, List.append_nil, List.cons_append, List.nil_append, List.getElem?_cons_zero, List.getElem?_cons_succ, List.set_cons_zero, List.set_cons_succ, Nat.reduceAdd, Nat.reduceSub, Nat.reduceLeDiff, Bool.false_eq_true, Bool.not_true, Bool.not_false, reduceIte, Nat.reduceEqDiff, d_int, d_str, d_bl, d_non, d_tup, d_ftp, d_lst, d_fls, d_dic, d_ty, d_locL, d_locD, add_int, sub_int, mul_int, mod_int, div_int, lt_int, le_int, gt_int, ge_int, int_int, len_lst, len_tup, len_fls, idx_lst, idx_tup, idx_dicS, idx_dicI, eFld, eMeth, sFldM, gFld, gSubM, eGet2, ePop2, eChain, i_at, eq_self, l_num, l_base, l_sp, l_held, l_words, p_sp, f_len5, l_m0, l_m1, l_m2, l_m3, l_m4, l_m5, l_m6, l_m7, l_m8, l_m9, m_h, m_w, m_i, m_seth, m_setw, m_seti, look_h, look_w, d_dV, dm_h, dm_w, put_w, put_h, drop_w, eq_any, eq_out, dicOf, locDic, toKey, v_STACK, v_GOES_ON, v_OFF_STACK, v_WILD, v_MOST_WORDS, v_RETURN, v_END, Nat.reduceLT, eqs, ine, atI2_0, atI2_1, atI3_0, atI3_1, atI3_2, atI4_0, atI4_1, atI4_2, atI4_3, atI1_0, decide_true, decide_false, decide_eq_false, gEqT, in_str, isS, strIn, Bool.or_false, Bool.false_or, Bool.true_or, Bool.or_true, Bool.and_true, Bool.true_and, Bool.and_false, Bool.false_and, List.all_cons, List.all_nil, nes, is_non, is_int, eUn, neg_int, gB, bTup, bMore, bVar, bNone, Option.bind_some, st_h, st_hA, gd_any, d_out, d_any, f_q_Machine_do_memory, b_q_Machine_do_memory, dI, ha, q, oI, Mc.exec]
    | some a =>
      cases c : on m.base (a + n)
      · simp (disch := first | omega | decide) only [fnM, startE, finR, List.length_cons, List.length_nil, List.map_cons, List.map_nil, if_true, if_false, sSeq, sBind, sAsg, sRet, sRetN, sNil, sIf, sExpr, sPar, bindE, eOp, eVar, eC, eCallB, eCall, eCons, eNil, eTup, eLst, eIf, vAnd, vOr, vNot, bAnd, bOr, bNot, asB, liftO, gVar, onlyN, List.replicate, List.append_nil, List.cons_append, List.nil_append, List.getElem?_cons_zero, List.getElem?_cons_succ, List.set_cons_zero, List.set_cons_succ, Nat.reduceAdd, Nat.reduceSub, Nat.reduceLeDiff, Bool.false_eq_true, Bool.not_true, Bool.not_false, reduceIte, Nat.reduceEqDiff, d_int, d_str, d_bl, d_non, d_tup, d_ftp, d_lst, d_fls, d_dic, d_ty, d_locL, d_locD, add_int, sub_int, mul_int, mod_int, div_int, lt_int, le_int, gt_int, ge_int, int_int, len_lst, len_tup, len_fls, idx_lst, idx_tup, idx_dicS, idx_dicI, eFld, eMeth, sFldM, gFld, gSubM, eGet2, ePop2, eChain, i_at, eq_self, l_num, l_base, l_sp, l_held, l_words, p_sp, f_len5, l_m0, l_m1, l_m2, l_m3, l_m4, l_m5, l_m6, l_m7, l_m8, l_m9, m_h, m_w, m_i, m_seth, m_setw, m_seti, look_h, look_w, d_dV, dm_h, dm_w, put_w, put_h, drop_w, eq_any, eq_out, dicOf, locDic, toKey, v_STACK, v_GOES_ON, v_OFF_STACK, v_WILD, v_MOST_WORDS, v_RETURN, v_END, Nat.reduceLT, eqs, ine, atI2_0, atI2_1, atI3_0, atI3_1, atI3_2, atI4_0, atI4_1, atI4_2, atI4_3, atI1_0, decide_true, decide_false, decide_eq_false, gEqT, in_str, isS, strIn, Bool.or_false, Bool.false_or, Bool.true_or, Bool.or_true, Bool.and_true, Bool.true_and, Bool.and_false, Bool.false_and, List.all_cons, List.all_nil, nes, is_non, is_int, eUn, neg_int, gB, bTup, bMore, bVar, bNone, Option.bind_some, st_h, st_hA, gd_any, d_out, d_any, f_q_Machine_do_memory, b_q_Machine_do_memory, dI, ha, q, oI, Mc.exec, is_on_eq, c]
      · simp (disch := first | omega | decide) only [fnM, startE, finR, List.length_cons, List.length_nil, List.map_cons, List.map_nil, if_true, if_false, sSeq, sBind, sAsg, sRet, sRetN, sNil, sIf, sExpr, sPar, bindE, eOp, eVar, eC, eCallB, eCall, eCons, eNil, eTup, eLst, eIf, vAnd, vOr, vNot, bAnd, bOr, bNot, asB, liftO, gVar, onlyN, List.replicate, List.append_nil, List.cons_append, List.nil_append, List.getElem?_cons_zero, List.getElem?_cons_succ, List.set_cons_zero, List.set_cons_succ, Nat.reduceAdd, Nat.reduceSub, Nat.reduceLeDiff, Bool.false_eq_true, Bool.not_true, Bool.not_false, reduceIte, Nat.reduceEqDiff, d_int, d_str, d_bl, d_non, d_tup, d_ftp, d_lst, d_fls, d_dic, d_ty, d_locL, d_locD, add_int, sub_int, mul_int, mod_int, div_int, lt_int, le_int, gt_int, ge_int, int_int, len_lst, len_tup, len_fls, idx_lst, idx_tup, idx_dicS, idx_dicI, eFld, eMeth, sFldM, gFld, gSubM, eGet2, ePop2, eChain, i_at, eq_self, l_num, l_base, l_sp, l_held, l_words, p_sp, f_len5, l_m0, l_m1, l_m2, l_m3, l_m4, l_m5, l_m6, l_m7, l_m8, l_m9, m_h, m_w, m_i, m_seth, m_setw, m_seti, look_h, look_w, d_dV, dm_h, dm_w, put_w, put_h, drop_w, eq_any, eq_out, dicOf, locDic, toKey, v_STACK, v_GOES_ON, v_OFF_STACK, v_WILD, v_MOST_WORDS, v_RETURN, v_END, Nat.reduceLT, eqs, ine, atI2_0, atI2_1, atI3_0, atI3_1, atI3_2, atI4_0, atI4_1, atI4_2, atI4_3, atI1_0, decide_true, decide_false, decide_eq_false, gEqT, in_str, isS, strIn, Bool.or_false, Bool.false_or, Bool.true_or, Bool.or_true, Bool.and_true, Bool.true_and, Bool.and_false, Bool.false_and, List.all_cons, List.all_nil, nes, is_non, is_int, eUn, neg_int, gB, bTup, bMore, bVar, bNone, Option.bind_some, st_h, st_hA, gd_any, d_out, d_any, f_q_Machine_do_memory, b_q_Machine_do_memory, dI, ha, q, oI, Mc.exec, is_on_eq, c]
  | _ => cases hi
end
end U
set_option Elab.async false
set_option linter.all false
set_option maxRecDepth 100000
set_option maxHeartbeats 4000000
namespace Sh
open PySem L2
end Sh
namespace U
open PySem Sh L2
/-! ### forgetting -/
def keysW (w : Ws) : List Int := w.map (·.1)
def NdW (w : Ws) : Prop := (keysW w).Nodup
def fz (S : Sto) (num base sp : Int) (h : Hd) (w : Ws) : Sto := S ++ [.dic h.d, .dicF (Ws.d w), .ins 0 (flds num base sp S.length)]
section
variable {S : Sto} {num base sp : Int} {h : Hd} {w w' : Ws}
theorem m_lock : (mst S num base sp h w).set (S.length + 1) (.dicF (Ws.d w)) = fz S num base sp h w := by simp [mst, fz, List.set_append_right]
theorem m_unlock : (fz S num base sp h w).set (S.length + 1) (.dic (Ws.d w)) = mst S num base sp h w := by simp [mst, fz, List.set_append_right]
theorem fz_w : (fz S num base sp h w)[S.length + 1]? = some (.dicF (Ws.d w)) := by simp [fz, List.getElem?_append_right]
theorem fz_i : (fz S num base sp h w)[S.length + 2]? = some (.ins 0 (flds num base sp S.length)) := by simp [fz, List.getElem?_append_right]
theorem fz_at : insAt (fz S num base sp h w) 0 (.loc (S.length + 2)) = some (S.length + 2, flds num base sp S.length) := by
  simp only [insAt, fz_i, if_true]
theorem keys_d (w : Ws) : ((Ws.d w).map fun kv => kD kv.1) = (keysW w).map D.int := by simp [Ws.d, keysW, Function.comp_def]
theorem del_loop (b : Int) (e : Sh.Env) (he : e[0]? = some (some (.loc (S.length + 2)))) (hl : 2 < e.length) : ∀ (ks : List Int) (w : Ws) (e : Sh.Env), e[0]? = some (some (.loc (S.length + 2))) → 2 < e.length → ks.Nodup → (∀ a ∈ ks, a ∈ keysW w) →
    ∃ e', sLoop (gB (bVar 2)) (sDel (eFld 0 "words" (eVar 0)) (eVar 2)) (ks.map D.int) e (mst S num base sp h w) = .nx e' (mst S num base sp h (w.filter fun p => decide (p.1 ∉ ks)))
  | [], w, e, _, _, _, _ => ⟨e, by
    have : (w.filter fun p => decide (p.1 ∉ ([] : List Int))) = w := List.filter_eq_self.mpr fun _ _ => by simp
    rw [this]; rfl⟩
  | a :: ks, w, e, he, hl, hn, hk => by
    have hn' := List.nodup_cons.mp hn
    have h0 : (e.set 2 (some (D.int a)))[0]? = some (some (.loc (S.length + 2))) := by rw [List.getElem?_set_ne (by decide)]; exact he
    have h2 : (e.set 2 (some (D.int a)))[2]? = some (some (D.int a)) := by rw [List.getElem?_set_self (by omega)]
    have hm : a ∈ keysW w := hk a List.mem_cons_self
    obtain ⟨v, hv⟩ : ∃ v, Ws.get w a = some v := by
      unfold Ws.get
      obtain ⟨p, hp, rfl⟩ := List.mem_map.mp hm
      cases q : w.find? fun x => decide (x.1 = p.1) with
      | some u => exact ⟨u.2, rfl⟩
      | none =>
        have := List.find?_eq_none.mp q p hp
        simp at this
    obtain ⟨e', ih⟩ := del_loop b e he hl ks (Ws.drop w a) (e.set 2 (some (D.int a))) h0 (by simpa using hl) hn'.2 fun x hx => by
      obtain ⟨p, hp, rfl⟩ := List.mem_map.mp (hk x (List.mem_cons_of_mem _ hx))
      refine List.mem_map.mpr ⟨p, List.mem_filter.mpr ⟨hp, ?_⟩, rfl⟩
      simp only [decide_eq_true_eq]
      intro z
      exact hn'.1 (z ▸ hx)
    refine ⟨e', ?_⟩
    simp (disch := omega) only [fnM, startE, finR, List.length_cons, List.length_nil, List.map_cons, List.map_nil, if_true, if_false, sSeq, sBind, sAsg, sRet, sRetN, sNil, sIf, sExpr, sPar, bindE, eOp, eVar, eC, eCallB, eCall, eCons, eNil, eTup, eLst, eIf, vAnd, vOr, vNot, bAnd, bOr, bNot, asB, liftO, gVar, onlyN, List.replicate, List.append_nil, List.cons_append, List.nil_append, List.getElem?_cons_zero, List.getElem?_cons_succ, List.set_cons_zero, List.set_cons_succ, Nat.reduceAdd, Nat.reduceSub, Nat.reduceLeDiff, Bool.false_eq_true, Bool.not_true, Bool.not_false, reduceIte, Nat.reduceEqDiff, d_int, d_str, d_bl, d_non, d_tup, d_ftp, d_lst, d_fls, d_dic, d_ty, d_locL, d_locD, add_int, sub_int, mul_int, mod_int, div_int, lt_int, le_int, gt_int, ge_int, int_int, len_lst, len_tup, len_fls, idx_lst, idx_tup, idx_dicS, idx_dicI, eFld, eMeth, sFldM, gFld, gSubM, eGet2, ePop2, eChain, i_at, eq_self, l_num, l_base, l_sp, l_held, l_words, p_sp, f_len5, l_m0, l_m1, l_m2, l_m3, l_m4, l_m5, l_m6, l_m7, l_m8, l_m9, m_h, m_w, m_i, m_seth, m_setw, m_seti, look_h, look_w, d_dV, dm_h, dm_w, put_w, put_h, drop_w, eq_any, eq_out, dicOf, locDic, toKey, v_STACK, v_GOES_ON, v_OFF_STACK, v_WILD, v_MOST_WORDS, v_RETURN, v_END, Nat.reduceLT, eqs, ine, sLoop, gB, bVar, sDel, h0, h2, Option.map_some, hv]
    rw [ih]
    congr 2
    unfold Ws.drop
    rw [List.filter_filter]
    refine List.filter_congr fun p _ => ?_
    simp only [List.mem_cons, not_or, ne_eq, Bool.decide_and]
    rw [Bool.and_comm]
theorem forget_below_eq (b : Int) (hn : NdW w) (hl : w.length < 1000) : f_q_Machine_forget_below [.loc (S.length + 2), .int b] (mst S num base sp h w) = .ok .non (mst S num base sp h (w.filter fun p => decide (b ≤ p.1))) := by
  have hk : (List.map D.int (keysW w)).length ≤ 199999 := by simp [keysW]; omega
  simp (disch := omega) only [fnM, startE, finR, List.length_cons, List.length_nil, List.map_cons, List.map_nil, if_true, if_false, sSeq, sBind, sAsg, sRet, sRetN, sNil, sIf, sExpr, sPar, bindE, eOp, eVar, eC, eCallB, eCall, eCons, eNil, eTup, eLst, eIf, vAnd, vOr, vNot, bAnd, bOr, bNot, asB, liftO, gVar, onlyN, List.replicate, List.append_nil, List.cons_append, List.nil_append, List.getElem?_cons_zero, List.getElem?_cons_succ, List.set_cons_zero, List.set_cons_succ, Nat.reduceAdd, Nat.reduceSub, Nat.reduceLeDiff, Bool.false_eq_true, Bool.not_true, Bool.not_false, reduceIte, Nat.reduceEqDiff, d_int, d_str, d_bl, d_non, d_tup, d_ftp, d_lst, d_fls, d_dic, d_ty, d_locL, d_locD, add_int, sub_int, mul_int, mod_int, div_int, lt_int, le_int, gt_int, ge_int, int_int, len_lst, len_tup, len_fls, idx_lst, idx_tup, idx_dicS, idx_dicI, eFld, eMeth, sFldM, gFld, gSubM, eGet2, ePop2, eChain, i_at, eq_self, l_num, l_base, l_sp, l_held, l_words, p_sp, f_len5, l_m0, l_m1, l_m2, l_m3, l_m4, l_m5, l_m6, l_m7, l_m8, l_m9, m_h, m_w, m_i, m_seth, m_setw, m_seti, look_h, look_w, d_dV, dm_h, dm_w, put_w, put_h, drop_w, eq_any, eq_out, dicOf, locDic, toKey, v_STACK, v_GOES_ON, v_OFF_STACK, v_WILD, v_MOST_WORDS, v_RETURN, v_END, Nat.reduceLT, eqs, ine, f_q_Machine_forget_below, b_q_Machine_forget_below, sFor, eSrc, eLock, m_lock, eLc, eKeys, fz_at, fz_w, keys_d, fuelOf, wipeE, lcF_0, hk]
  rw [lcL_pure (fun d => match d with | .int a => decide (a < b) | _ => false) id (fun d hd => by
    obtain ⟨a, _, rfl⟩ := List.mem_map.mp hd
    exact ⟨_, rfl, rfl, fun _ => rfl⟩)]
  have hf : ((List.map D.int (keysW w)).filter (fun d => match d with | .int a => decide (a < b) | _ => false)).map id = ((keysW w).filter fun a => decide (a < b)).map D.int := by
    rw [List.map_id, List.filter_map]
    rfl
  rw [hf]
  obtain ⟨e', h'⟩ := del_loop (S := S) (num := num) (base := base) (sp := sp) (h := h) b [some (D.loc (S.length + 2)), some (D.int b), none] rfl (by simp) ((keysW w).filter fun a => decide (a < b)) w [some (D.loc (S.length + 2)), some (D.int b), none] rfl (by simp) (hn.sublist List.filter_sublist) (fun a ha => (List.mem_filter.mp ha).1)
  simp only [m_unlock, sLoopF_0]
  rw [h']
  simp only
  congr 2
  refine List.filter_congr fun p hp => ?_
  have : p.1 ∈ keysW w := List.mem_map.mpr ⟨p, hp, rfl⟩
  simp only [List.mem_filter, this, true_and, decide_eq_true_eq, decide_not]
  by_cases c : p.1 < b
  · simp [c]
  · simp [c]; omega
theorem hset_comm : True := trivial
theorem forget_eq (hn : NdW w) (hl : w.length < 1000) : f_q_Machine_forget [.loc (S.length + 2)] (mst S num base sp h w) = .ok .non (mst S num base sp ((h.set .x .any).set .y .any) (w.filter fun p => decide (sp ≤ p.1))) := by
  have hx : ∀ e, stIx (mst S num base sp h w) e (.loc S.length) (.str "x") v_ANY = .nx e (mst S num base sp (h.set .x .any) w) := fun e => st_hA (g := .x)
  have hy : ∀ e h, stIx (mst S num base sp h w) e (.loc S.length) (.str "y") v_ANY = .nx e (mst S num base sp (h.set .y .any) w) := fun e h => st_hA (g := .y)
  simp (disch := first | omega | decide) only [fnM, startE, finR, List.length_cons, List.length_nil, List.map_cons, List.map_nil, if_true, if_false, sSeq, sBind, sAsg, sRet, sRetN, sNil, sIf, sExpr, sPar, bindE, eOp, eVar, eC, eCallB, eCall, eCons, eNil, eTup, eLst, eIf, vAnd, vOr, vNot, bAnd, bOr, bNot, asB, liftO, gVar, onlyN, List.replicate, List.append_nil, List.cons_append, List.nil_append, List.getElem?_cons_zero, List.getElem?_cons_succ, List.set_cons_zero, List.set_cons_succ, Nat.reduceAdd, Nat.reduceSub, Nat.reduceLeDiff, Bool.false_eq_true, Bool.not_true, Bool.not_false, reduceIte, Nat.reduceEqDiff, d_int, d_str, d_bl, d_non, d_tup, d_ftp, d_lst, d_fls, d_dic, d_ty, d_locL, d_locD, add_int, sub_int, mul_int, mod_int, div_int, lt_int, le_int, gt_int, ge_int, int_int, len_lst, len_tup, len_fls, idx_lst, idx_tup, idx_dicS, idx_dicI, eFld, eMeth, sFldM, gFld, gSubM, eGet2, ePop2, eChain, i_at, eq_self, l_num, l_base, l_sp, l_held, l_words, p_sp, f_len5, l_m0, l_m1, l_m2, l_m3, l_m4, l_m5, l_m6, l_m7, l_m8, l_m9, m_h, m_w, m_i, m_seth, m_setw, m_seti, look_h, look_w, d_dV, dm_h, dm_w, put_w, put_h, drop_w, eq_any, eq_out, dicOf, locDic, toKey, v_STACK, v_GOES_ON, v_OFF_STACK, v_WILD, v_MOST_WORDS, v_RETURN, v_END, Nat.reduceLT, eqs, ine, atI2_0, atI2_1, atI3_0, atI3_1, atI3_2, atI4_0, atI4_1, atI4_2, atI4_3, atI1_0, decide_true, decide_false, decide_eq_false, gEqT, in_str, isS, strIn, Bool.or_false, Bool.false_or, Bool.true_or, Bool.or_true, Bool.and_true, Bool.true_and, Bool.and_false, Bool.false_and, List.all_cons, List.all_nil, nes, is_non, is_int, eUn, neg_int, gB, bTup, bMore, bVar, bNone, Option.bind_some, st_h, st_hA, gd_any, d_out, d_any, f_q_Machine_forget, b_q_Machine_forget, sFor, eSrc, v_SCRATCH, fuelOf, sLoopF_st, List.drop_zero, sLoop, hx, hy, forget_below_eq, item, sLoopF, List.getElem?_nil]
end
section
variable {S : Sto} {m : Mc}
def goes : Ins → Bool
  | .jump _ | .branch _ | .ret => true
  | _ => false
theorem do_eq (i : Ins) (hn : NdW m.w) (hl : m.w.length < 1000) : f_q_Machine_do [.loc (S.length + 2), dI i] (ms S m) = .ok (.str (m.exec i).1) (ms S (m.exec i).2) := by
  cases i with
  | push g =>
    have := do_stack_eq (S := S) (m := m) (.push g) rfl hl
    simp only [dI] at this
    simp (disch := first | omega | decide) only [fnM, startE, finR, List.length_cons, List.length_nil, List.map_cons, List.map_nil, if_true, if_false, sSeq, sBind, sAsg, sRet, sRetN, sNil, sIf, sExpr, sPar, bindE, eOp, eVar, eC, eCallB, eCall, eCons, eNil, eTup, eLst, eIf, vAnd, vOr, vNot, bAnd, bOr, bNot, asB, liftO, gVar, onlyN, List.replicate, List.append_nil, List.cons_append, List.nil_append, List.getElem?_cons_zero, List.getElem?_cons_succ, List.set_cons_zero, List.set_cons_succ, Nat.reduceAdd, Nat.reduceSub, Nat.reduceLeDiff, Bool.false_eq_true, Bool.not_true, Bool.not_false, reduceIte, Nat.reduceEqDiff, d_int, d_str, d_bl, d_non, d_tup, d_ftp, d_lst, d_fls, d_dic, d_ty, d_locL, d_locD, add_int, sub_int, mul_int, mod_int, div_int, lt_int, le_int, gt_int, ge_int, int_int, len_lst, len_tup, len_fls, idx_lst, idx_tup, idx_dicS, idx_dicI, eFld, eMeth, sFldM, gFld, gSubM, eGet2, ePop2, eChain, i_at, eq_self, l_num, l_base, l_sp, l_held, l_words, p_sp, f_len5, l_m0, l_m1, l_m2, l_m3, l_m4, l_m5, l_m6, l_m7, l_m8, l_m9, m_h, m_w, m_i, m_seth, m_setw, m_seti, look_h, look_w, d_dV, dm_h, dm_w, put_w, put_h, drop_w, eq_any, eq_out, dicOf, locDic, toKey, v_STACK, v_GOES_ON, v_OFF_STACK, v_WILD, v_MOST_WORDS, v_RETURN, v_END, Nat.reduceLT, eqs, ine, atI2_0, atI2_1, atI3_0, atI3_1, atI3_2, atI4_0, atI4_1, atI4_2, atI4_3, atI1_0, decide_true, decide_false, decide_eq_false, gEqT, in_str, isS, strIn, Bool.or_false, Bool.false_or, Bool.true_or, Bool.or_true, Bool.and_true, Bool.true_and, Bool.and_false, Bool.false_and, List.all_cons, List.all_nil, nes, is_non, is_int, eUn, neg_int, gB, bTup, bMore, bVar, bNone, Option.bind_some, st_h, st_hA, gd_any, d_out, d_any, f_q_Machine_do, b_q_Machine_do, dI, this]
  | pop g =>
    have := do_stack_eq (S := S) (m := m) (.pop g) rfl hl
    simp only [dI] at this
    simp (disch := first | omega | decide) only [fnM, startE, finR, List.length_cons, List.length_nil, List.map_cons, List.map_nil, if_true, if_false, sSeq, sBind, sAsg, sRet, sRetN, sNil, sIf, sExpr, sPar, bindE, eOp, eVar, eC, eCallB, eCall, eCons, eNil, eTup, eLst, eIf, vAnd, vOr, vNot, bAnd, bOr, bNot, asB, liftO, gVar, onlyN, List.replicate, List.append_nil, List.cons_append, List.nil_append, List.getElem?_cons_zero, List.getElem?_cons_succ, List.set_cons_zero, List.set_cons_succ, Nat.reduceAdd, Nat.reduceSub, Nat.reduceLeDiff, Bool.false_eq_true, Bool.not_true, Bool.not_false, reduceIte, Nat.reduceEqDiff, d_int, d_str, d_bl, d_non, d_tup, d_ftp, d_lst, d_fls, d_dic, d_ty, d_locL, d_locD, add_int, sub_int, mul_int, mod_int, div_int, lt_int, le_int, gt_int, ge_int, int_int, len_lst, len_tup, len_fls, idx_lst, idx_tup, idx_dicS, idx_dicI, eFld, eMeth, sFldM, gFld, gSubM, eGet2, ePop2, eChain, i_at, eq_self, l_num, l_base, l_sp, l_held, l_words, p_sp, f_len5, l_m0, l_m1, l_m2, l_m3, l_m4, l_m5, l_m6, l_m7, l_m8, l_m9, m_h, m_w, m_i, m_seth, m_setw, m_seti, look_h, look_w, d_dV, dm_h, dm_w, put_w, put_h, drop_w, eq_any, eq_out, dicOf, locDic, toKey, v_STACK, v_GOES_ON, v_OFF_STACK, v_WILD, v_MOST_WORDS, v_RETURN, v_END, Nat.reduceLT, eqs, ine, atI2_0, atI2_1, atI3_0, atI3_1, atI3_2, atI4_0, atI4_1, atI4_2, atI4_3, atI1_0, decide_true, decide_false, decide_eq_false, gEqT, in_str, isS, strIn, Bool.or_false, Bool.false_or, Bool.true_or, Bool.or_true, Bool.and_true, Bool.true_and, Bool.and_false, Bool.false_and, List.all_cons, List.all_nil, nes, is_non, is_int, eUn, neg_int, gB, bTup, bMore, bVar, bNone, Option.bind_some, st_h, st_hA, gd_any, d_out, d_any, f_q_Machine_do, b_q_Machine_do, dI, this]
  | grow g =>
    have := do_stack_eq (S := S) (m := m) (.grow g) rfl hl
    simp only [dI] at this
    simp (disch := first | omega | decide) only [fnM, startE, finR, List.length_cons, List.length_nil, List.map_cons, List.map_nil, if_true, if_false, sSeq, sBind, sAsg, sRet, sRetN, sNil, sIf, sExpr, sPar, bindE, eOp, eVar, eC, eCallB, eCall, eCons, eNil, eTup, eLst, eIf, vAnd, vOr, vNot, bAnd, bOr, bNot, asB, liftO, gVar, onlyN, List.replicate, List.append_nil, List.cons_append, List.nil_append, List.getElem?_cons_zero, List.getElem?_cons_succ, List.set_cons_zero, List.set_cons_succ, Nat.reduceAdd, Nat.reduceSub, Nat.reduceLeDiff, Bool.false_eq_true, Bool.not_true, Bool.not_false, reduceIte, Nat.reduceEqDiff, d_int, d_str, d_bl, d_non, d_tup, d_ftp, d_lst, d_fls, d_dic, d_ty, d_locL, d_locD, add_int, sub_int, mul_int, mod_int, div_int, lt_int, le_int, gt_int, ge_int, int_int, len_lst, len_tup, len_fls, idx_lst, idx_tup, idx_dicS, idx_dicI, eFld, eMeth, sFldM, gFld, gSubM, eGet2, ePop2, eChain, i_at, eq_self, l_num, l_base, l_sp, l_held, l_words, p_sp, f_len5, l_m0, l_m1, l_m2, l_m3, l_m4, l_m5, l_m6, l_m7, l_m8, l_m9, m_h, m_w, m_i, m_seth, m_setw, m_seti, look_h, look_w, d_dV, dm_h, dm_w, put_w, put_h, drop_w, eq_any, eq_out, dicOf, locDic, toKey, v_STACK, v_GOES_ON, v_OFF_STACK, v_WILD, v_MOST_WORDS, v_RETURN, v_END, Nat.reduceLT, eqs, ine, atI2_0, atI2_1, atI3_0, atI3_1, atI3_2, atI4_0, atI4_1, atI4_2, atI4_3, atI1_0, decide_true, decide_false, decide_eq_false, gEqT, in_str, isS, strIn, Bool.or_false, Bool.false_or, Bool.true_or, Bool.or_true, Bool.and_true, Bool.true_and, Bool.and_false, Bool.false_and, List.all_cons, List.all_nil, nes, is_non, is_int, eUn, neg_int, gB, bTup, bMore, bVar, bNone, Option.bind_some, st_h, st_hA, gd_any, d_out, d_any, f_q_Machine_do, b_q_Machine_do, dI, this]
  | shrink g =>
    have := do_stack_eq (S := S) (m := m) (.shrink g) rfl hl
    simp only [dI] at this
    simp (disch := first | omega | decide) only [fnM, startE, finR, List.length_cons, List.length_nil, List.map_cons, List.map_nil, if_true, if_false, sSeq, sBind, sAsg, sRet, sRetN, sNil, sIf, sExpr, sPar, bindE, eOp, eVar, eC, eCallB, eCall, eCons, eNil, eTup, eLst, eIf, vAnd, vOr, vNot, bAnd, bOr, bNot, asB, liftO, gVar, onlyN, List.replicate, List.append_nil, List.cons_append, List.nil_append, List.getElem?_cons_zero, List.getElem?_cons_succ, List.set_cons_zero, List.set_cons_succ, Nat.reduceAdd, Nat.reduceSub, Nat.reduceLeDiff, Bool.false_eq_true, Bool.not_true, Bool.not_false, reduceIte, Nat.reduceEqDiff, d_int, d_str, d_bl, d_non, d_tup, d_ftp, d_lst, d_fls, d_dic, d_ty, d_locL, d_locD, add_int, sub_int, mul_int, mod_int, div_int, lt_int, le_int, gt_int, ge_int, int_int, len_lst, len_tup, len_fls, idx_lst, idx_tup, idx_dicS, idx_dicI, eFld, eMeth, sFldM, gFld, gSubM, eGet2, ePop2, eChain, i_at, eq_self, l_num, l_base, l_sp, l_held, l_words, p_sp, f_len5, l_m0, l_m1, l_m2, l_m3, l_m4, l_m5, l_m6, l_m7, l_m8, l_m9, m_h, m_w, m_i, m_seth, m_setw, m_seti, look_h, look_w, d_dV, dm_h, dm_w, put_w, put_h, drop_w, eq_any, eq_out, dicOf, locDic, toKey, v_STACK, v_GOES_ON, v_OFF_STACK, v_WILD, v_MOST_WORDS, v_RETURN, v_END, Nat.reduceLT, eqs, ine, atI2_0, atI2_1, atI3_0, atI3_1, atI3_2, atI4_0, atI4_1, atI4_2, atI4_3, atI1_0, decide_true, decide_false, decide_eq_false, gEqT, in_str, isS, strIn, Bool.or_false, Bool.false_or, Bool.true_or, Bool.or_true, Bool.and_true, Bool.true_and, Bool.and_false, Bool.false_and, List.all_cons, List.all_nil, nes, is_non, is_int, eUn, neg_int, gB, bTup, bMore, bVar, bNone, Option.bind_some, st_h, st_hA, gd_any, d_out, d_any, f_q_Machine_do, b_q_Machine_do, dI, this]
  | setsp g n =>
    have := do_stack_eq (S := S) (m := m) (.setsp g n) rfl hl
    simp only [dI] at this
    simp (disch := first | omega | decide) only [fnM, startE, finR, List.length_cons, List.length_nil, List.map_cons, List.map_nil, if_true, if_false, sSeq, sBind, sAsg, sRet, sRetN, sNil, sIf, sExpr, sPar, bindE, eOp, eVar, eC, eCallB, eCall, eCons, eNil, eTup, eLst, eIf, vAnd, vOr, vNot, bAnd, bOr, bNot, asB, liftO, gVar, onlyN, List.replicate, List.append_nil, List.cons_append, List.nil_append, List.getElem?_cons_zero, List.getElem?_cons_succ, List.set_cons_zero, List.set_cons_succ, Nat.reduceAdd, Nat.reduceSub, Nat.reduceLeDiff, Bool.false_eq_true, Bool.not_true, Bool.not_false, reduceIte, Nat.reduceEqDiff, d_int, d_str, d_bl, d_non, d_tup, d_ftp, d_lst, d_fls, d_dic, d_ty, d_locL, d_locD, add_int, sub_int, mul_int, mod_int, div_int, lt_int, le_int, gt_int, ge_int, int_int, len_lst, len_tup, len_fls, idx_lst, idx_tup, idx_dicS, idx_dicI, eFld, eMeth, sFldM, gFld, gSubM, eGet2, ePop2, eChain, i_at, eq_self, l_num, l_base, l_sp, l_held, l_words, p_sp, f_len5, l_m0, l_m1, l_m2, l_m3, l_m4, l_m5, l_m6, l_m7, l_m8, l_m9, m_h, m_w, m_i, m_seth, m_setw, m_seti, look_h, look_w, d_dV, dm_h, dm_w, put_w, put_h, drop_w, eq_any, eq_out, dicOf, locDic, toKey, v_STACK, v_GOES_ON, v_OFF_STACK, v_WILD, v_MOST_WORDS, v_RETURN, v_END, Nat.reduceLT, eqs, ine, atI2_0, atI2_1, atI3_0, atI3_1, atI3_2, atI4_0, atI4_1, atI4_2, atI4_3, atI1_0, decide_true, decide_false, decide_eq_false, gEqT, in_str, isS, strIn, Bool.or_false, Bool.false_or, Bool.true_or, Bool.or_true, Bool.and_true, Bool.true_and, Bool.and_false, Bool.false_and, List.all_cons, List.all_nil, nes, is_non, is_int, eUn, neg_int, gB, bTup, bMore, bVar, bNone, Option.bind_some, st_h, st_hA, gd_any, d_out, d_any, f_q_Machine_do, b_q_Machine_do, dI, this]
  | store b n g =>
    have := do_memory_eq (S := S) (m := m) (.store b n g) rfl hl
    simp only [dI] at this
    simp (disch := first | omega | decide) only [fnM, startE, finR, List.length_cons, List.length_nil, List.map_cons, List.map_nil, if_true, if_false, sSeq, sBind, sAsg, sRet, sRetN, sNil, sIf, sExpr, sPar, bindE, eOp, eVar, eC, eCallB, eCall, eCons, eNil, eTup, eLst, eIf, vAnd, vOr, vNot, bAnd, bOr, bNot, asB, liftO, gVar, onlyN, List.replicate, List.append_nil, List.cons_append, List.nil_append, List.getElem?_cons_zero, List.getElem?_cons_succ, List.set_cons_zero, List.set_cons_succ, Nat.reduceAdd, Nat.reduceSub, Nat.reduceLeDiff, Bool.false_eq_true, Bool.not_true, Bool.not_false, reduceIte, Nat.reduceEqDiff, d_int, d_str, d_bl, d_non, d_tup, d_ftp, d_lst, d_fls, d_dic, d_ty, d_locL, d_locD, add_int, sub_int, mul_int, mod_int, div_int, lt_int, le_int, gt_int, ge_int, int_int, len_lst, len_tup, len_fls, idx_lst, idx_tup, idx_dicS, idx_dicI, eFld, eMeth, sFldM, gFld, gSubM, eGet2, ePop2, eChain, i_at, eq_self, l_num, l_base, l_sp, l_held, l_words, p_sp, f_len5, l_m0, l_m1, l_m2, l_m3, l_m4, l_m5, l_m6, l_m7, l_m8, l_m9, m_h, m_w, m_i, m_seth, m_setw, m_seti, look_h, look_w, d_dV, dm_h, dm_w, put_w, put_h, drop_w, eq_any, eq_out, dicOf, locDic, toKey, v_STACK, v_GOES_ON, v_OFF_STACK, v_WILD, v_MOST_WORDS, v_RETURN, v_END, Nat.reduceLT, eqs, ine, atI2_0, atI2_1, atI3_0, atI3_1, atI3_2, atI4_0, atI4_1, atI4_2, atI4_3, atI1_0, decide_true, decide_false, decide_eq_false, gEqT, in_str, isS, strIn, Bool.or_false, Bool.false_or, Bool.true_or, Bool.or_true, Bool.and_true, Bool.true_and, Bool.and_false, Bool.false_and, List.all_cons, List.all_nil, nes, is_non, is_int, eUn, neg_int, gB, bTup, bMore, bVar, bNone, Option.bind_some, st_h, st_hA, gd_any, d_out, d_any, f_q_Machine_do, b_q_Machine_do, dI, this]
  | load b n g =>
    have := do_memory_eq (S := S) (m := m) (.load b n g) rfl hl
    simp only [dI] at this
    simp (disch := first | omega | decide) only [fnM, startE, finR, List.length_cons, List.length_nil, List.map_cons, List.map_nil, if_true, if_false, sSeq, sBind, sAsg, sRet, sRetN, sNil, sIf, sExpr, sPar, bindE, eOp, eVar, eC, eCallB, eCall, eCons, eNil, eTup, eLst, eIf, vAnd, vOr, vNot, bAnd, bOr, bNot, asB, liftO, gVar, onlyN, List.replicate, List.append_nil, List.cons_append, List.nil_append, List.getElem?_cons_zero, List.getElem?_cons_succ, List.set_cons_zero, List.set_cons_succ, Nat.reduceAdd, Nat.reduceSub, Nat.reduceLeDiff, Bool.false_eq_true, Bool.not_true, Bool.not_false, reduceIte, Nat.reduceEqDiff, d_int, d_str, d_bl, d_non, d_tup, d_ftp, d_lst, d_fls, d_dic, d_ty, d_locL, d_locD, add_int, sub_int, mul_int, mod_int, div_int, lt_int, le_int, gt_int, ge_int, int_int, len_lst, len_tup, len_fls, idx_lst, idx_tup, idx_dicS, idx_dicI, eFld, eMeth, sFldM, gFld, gSubM, eGet2, ePop2, eChain, i_at, eq_self, l_num, l_base, l_sp, l_held, l_words, p_sp, f_len5, l_m0, l_m1, l_m2, l_m3, l_m4, l_m5, l_m6, l_m7, l_m8, l_m9, m_h, m_w, m_i, m_seth, m_setw, m_seti, look_h, look_w, d_dV, dm_h, dm_w, put_w, put_h, drop_w, eq_any, eq_out, dicOf, locDic, toKey, v_STACK, v_GOES_ON, v_OFF_STACK, v_WILD, v_MOST_WORDS, v_RETURN, v_END, Nat.reduceLT, eqs, ine, atI2_0, atI2_1, atI3_0, atI3_1, atI3_2, atI4_0, atI4_1, atI4_2, atI4_3, atI1_0, decide_true, decide_false, decide_eq_false, gEqT, in_str, isS, strIn, Bool.or_false, Bool.false_or, Bool.true_or, Bool.or_true, Bool.and_true, Bool.true_and, Bool.and_false, Bool.false_and, List.all_cons, List.all_nil, nes, is_non, is_int, eUn, neg_int, gB, bTup, bMore, bVar, bNone, Option.bind_some, st_h, st_hA, gd_any, d_out, d_any, f_q_Machine_do, b_q_Machine_do, dI, this]
  | move a b => simp (disch := first | omega | decide) only [fnM, startE, finR, List.length_cons, List.length_nil, List.map_cons, List.map_nil, if_true, if_false, sSeq, sBind, sAsg, sRet, sRetN, sNil, sIf, sExpr, sPar, bindE, eOp, eVar, eC, eCallB, eCall, eCons, eNil, eTup, eLst, eIf, vAnd, vOr, vNot, bAnd, bOr, bNot, asB, liftO, gVar, onlyN, List.replicate, List.append_nil, List.cons_append, List.nil_append, List.getElem?_cons_zero, List.getElem?_cons_succ, List.set_cons_zero, List.set_cons_succ, Nat.reduceAdd, Nat.reduceSub, Nat.reduceLeDiff, Bool.false_eq_true, Bool.not_true, Bool.not_false, reduceIte, Nat.reduceEqDiff, d_int, d_str, d_bl, d_non, d_tup, d_ftp, d_lst, d_fls, d_dic, d_ty, d_locL, d_locD, add_int, sub_int, mul_int, mod_int, div_int, lt_int, le_int, gt_int, ge_int, int_int, len_lst, len_tup, len_fls, idx_lst, idx_tup, idx_dicS, idx_dicI, eFld, eMeth, sFldM, gFld, gSubM, eGet2, ePop2, eChain, i_at, eq_self, l_num, l_base, l_sp, l_held, l_words, p_sp, f_len5, l_m0, l_m1, l_m2, l_m3, l_m4, l_m5, l_m6, l_m7, l_m8, l_m9, m_h, m_w, m_i, m_seth, m_setw, m_seti, look_h, look_w, d_dV, dm_h, dm_w, put_w, put_h, drop_w, eq_any, eq_out, dicOf, locDic, toKey, v_STACK, v_GOES_ON, v_OFF_STACK, v_WILD, v_MOST_WORDS, v_RETURN, v_END, Nat.reduceLT, eqs, ine, atI2_0, atI2_1, atI3_0, atI3_1, atI3_2, atI4_0, atI4_1, atI4_2, atI4_3, atI1_0, decide_true, decide_false, decide_eq_false, gEqT, in_str, isS, strIn, Bool.or_false, Bool.false_or, Bool.true_or, Bool.or_true, Bool.and_true, Bool.true_and, Bool.and_false, Bool.false_and, List.all_cons, List.all_nil, nes, is_non, is_int, eUn, neg_int, gB, bTup, bMore, bVar, bNone, Option.bind_some, st_h, st_hA, gd_any, d_out, d_any, f_q_Machine_do, b_q_Machine_do, dI, Mc.exec]
  | point a n =>
    have hv : ∀ e, stIx (ms S m) e (.loc S.length) (.str a.n) (.tup [.str "word", .int m.num, .int (m.sp + n)]) = .nx e (mst S m.num m.base m.sp (m.h.set a (.wrd m.num (m.sp + n))) m.w) := fun e => st_h (v := .wrd m.num (m.sp + n))
    simp (disch := first | omega | decide) only [fnM, startE, finR, List.length_cons, List.length_nil, List.map_cons, List.map_nil, if_true, if_false, sSeq, sBind, sAsg, sRet, sRetN, sNil, sIf, sExpr, sPar, bindE, eOp, eVar, eC, eCallB, eCall, eCons, eNil, eTup, eLst, eIf, vAnd, vOr, vNot, bAnd, bOr, bNot, asB, liftO, gVar, onlyN, List.replicate, List.append_nil, List.cons_append, List.nil_append, List.getElem?_cons_zero, List.getElem?_cons_succ, List.set_cons_zero, List.set_cons_succ, Nat.reduceAdd, Nat.reduceSub, Nat.reduceLeDiff, Bool.false_eq_true, Bool.not_true, Bool.not_false, reduceIte, Nat.reduceEqDiff, d_int, d_str, d_bl, d_non, d_tup, d_ftp, d_lst, d_fls, d_dic, d_ty, d_locL, d_locD, add_int, sub_int, mul_int, mod_int, div_int, lt_int, le_int, gt_int, ge_int, int_int, len_lst, len_tup, len_fls, idx_lst, idx_tup, idx_dicS, idx_dicI, eFld, eMeth, sFldM, gFld, gSubM, eGet2, ePop2, eChain, i_at, eq_self, l_num, l_base, l_sp, l_held, l_words, p_sp, f_len5, l_m0, l_m1, l_m2, l_m3, l_m4, l_m5, l_m6, l_m7, l_m8, l_m9, m_h, m_w, m_i, m_seth, m_setw, m_seti, look_h, look_w, d_dV, dm_h, dm_w, put_w, put_h, drop_w, eq_any, eq_out, dicOf, locDic, toKey, v_STACK, v_GOES_ON, v_OFF_STACK, v_WILD, v_MOST_WORDS, v_RETURN, v_END, Nat.reduceLT, eqs, ine, atI2_0, atI2_1, atI3_0, atI3_1, atI3_2, atI4_0, atI4_1, atI4_2, atI4_3, atI1_0, decide_true, decide_false, decide_eq_false, gEqT, in_str, isS, strIn, Bool.or_false, Bool.false_or, Bool.true_or, Bool.or_true, Bool.and_true, Bool.true_and, Bool.and_false, Bool.false_and, List.all_cons, List.all_nil, nes, is_non, is_int, eUn, neg_int, gB, bTup, bMore, bVar, bNone, Option.bind_some, st_h, st_hA, gd_any, d_out, d_any, f_q_Machine_do, b_q_Machine_do, dI, Mc.exec, hv]
  | work a => simp (disch := first | omega | decide) only [fnM, startE, finR, List.length_cons, List.length_nil, List.map_cons, List.map_nil, if_true, if_false, sSeq, sBind, sAsg, sRet, sRetN, sNil, sIf, sExpr, sPar, bindE, eOp, eVar, eC, eCallB, eCall, eCons, eNil, eTup, eLst, eIf, vAnd, vOr, vNot, bAnd, bOr, bNot, asB, liftO, gVar, onlyN, List.replicate, List.append_nil, List.cons_append, List.nil_append, List.getElem?_cons_zero, List.getElem?_cons_succ, List.set_cons_zero, List.set_cons_succ, Nat.reduceAdd, Nat.reduceSub, Nat.reduceLeDiff, Bool.false_eq_true, Bool.not_true, Bool.not_false, reduceIte, Nat.reduceEqDiff, d_int, d_str, d_bl, d_non, d_tup, d_ftp, d_lst, d_fls, d_dic, d_ty, d_locL, d_locD, add_int, sub_int, mul_int, mod_int, div_int, lt_int, le_int, gt_int, ge_int, int_int, len_lst, len_tup, len_fls, idx_lst, idx_tup, idx_dicS, idx_dicI, eFld, eMeth, sFldM, gFld, gSubM, eGet2, ePop2, eChain, i_at, eq_self, l_num, l_base, l_sp, l_held, l_words, p_sp, f_len5, l_m0, l_m1, l_m2, l_m3, l_m4, l_m5, l_m6, l_m7, l_m8, l_m9, m_h, m_w, m_i, m_seth, m_setw, m_seti, look_h, look_w, d_dV, dm_h, dm_w, put_w, put_h, drop_w, eq_any, eq_out, dicOf, locDic, toKey, v_STACK, v_GOES_ON, v_OFF_STACK, v_WILD, v_MOST_WORDS, v_RETURN, v_END, Nat.reduceLT, eqs, ine, atI2_0, atI2_1, atI3_0, atI3_1, atI3_2, atI4_0, atI4_1, atI4_2, atI4_3, atI1_0, decide_true, decide_false, decide_eq_false, gEqT, in_str, isS, strIn, Bool.or_false, Bool.false_or, Bool.true_or, Bool.or_true, Bool.and_true, Bool.true_and, Bool.and_false, Bool.false_and, List.all_cons, List.all_nil, nes, is_non, is_int, eUn, neg_int, gB, bTup, bMore, bVar, bNone, Option.bind_some, st_h, st_hA, gd_any, d_out, d_any, f_q_Machine_do, b_q_Machine_do, dI, Mc.exec]
  | call x => simp (disch := first | omega | decide) only [fnM, startE, finR, List.length_cons, List.length_nil, List.map_cons, List.map_nil, if_true, if_false, sSeq, sBind, sAsg, sRet, sRetN, sNil, sIf, sExpr, sPar, bindE, eOp, eVar, eC, eCallB, eCall, eCons, eNil, eTup, eLst, eIf, vAnd, vOr, vNot, bAnd, bOr, bNot, asB, liftO, gVar, onlyN, List.replicate, List.append_nil, List.cons_append, List.nil_append, List.getElem?_cons_zero, List.getElem?_cons_succ, List.set_cons_zero, List.set_cons_succ, Nat.reduceAdd, Nat.reduceSub, Nat.reduceLeDiff, Bool.false_eq_true, Bool.not_true, Bool.not_false, reduceIte, Nat.reduceEqDiff, d_int, d_str, d_bl, d_non, d_tup, d_ftp, d_lst, d_fls, d_dic, d_ty, d_locL, d_locD, add_int, sub_int, mul_int, mod_int, div_int, lt_int, le_int, gt_int, ge_int, int_int, len_lst, len_tup, len_fls, idx_lst, idx_tup, idx_dicS, idx_dicI, eFld, eMeth, sFldM, gFld, gSubM, eGet2, ePop2, eChain, i_at, eq_self, l_num, l_base, l_sp, l_held, l_words, p_sp, f_len5, l_m0, l_m1, l_m2, l_m3, l_m4, l_m5, l_m6, l_m7, l_m8, l_m9, m_h, m_w, m_i, m_seth, m_setw, m_seti, look_h, look_w, d_dV, dm_h, dm_w, put_w, put_h, drop_w, eq_any, eq_out, dicOf, locDic, toKey, v_STACK, v_GOES_ON, v_OFF_STACK, v_WILD, v_MOST_WORDS, v_RETURN, v_END, Nat.reduceLT, eqs, ine, atI2_0, atI2_1, atI3_0, atI3_1, atI3_2, atI4_0, atI4_1, atI4_2, atI4_3, atI1_0, decide_true, decide_false, decide_eq_false, gEqT, in_str, isS, strIn, Bool.or_false, Bool.false_or, Bool.true_or, Bool.or_true, Bool.and_true, Bool.true_and, Bool.and_false, Bool.false_and, List.all_cons, List.all_nil, nes, is_non, is_int, eUn, neg_int, gB, bTup, bMore, bVar, bNone, Option.bind_some, st_h, st_hA, gd_any, d_out, d_any, f_q_Machine_do, b_q_Machine_do, dI, Mc.exec, forget_eq]
  | jump i => simp (disch := first | omega | decide) only [fnM, startE, finR, List.length_cons, List.length_nil, List.map_cons, List.map_nil, if_true, if_false, sSeq, sBind, sAsg, sRet, sRetN, sNil, sIf, sExpr, sPar, bindE, eOp, eVar, eC, eCallB, eCall, eCons, eNil, eTup, eLst, eIf, vAnd, vOr, vNot, bAnd, bOr, bNot, asB, liftO, gVar, onlyN, List.replicate, List.append_nil, List.cons_append, List.nil_append, List.getElem?_cons_zero, List.getElem?_cons_succ, List.set_cons_zero, List.set_cons_succ, Nat.reduceAdd, Nat.reduceSub, Nat.reduceLeDiff, Bool.false_eq_true, Bool.not_true, Bool.not_false, reduceIte, Nat.reduceEqDiff, d_int, d_str, d_bl, d_non, d_tup, d_ftp, d_lst, d_fls, d_dic, d_ty, d_locL, d_locD, add_int, sub_int, mul_int, mod_int, div_int, lt_int, le_int, gt_int, ge_int, int_int, len_lst, len_tup, len_fls, idx_lst, idx_tup, idx_dicS, idx_dicI, eFld, eMeth, sFldM, gFld, gSubM, eGet2, ePop2, eChain, i_at, eq_self, l_num, l_base, l_sp, l_held, l_words, p_sp, f_len5, l_m0, l_m1, l_m2, l_m3, l_m4, l_m5, l_m6, l_m7, l_m8, l_m9, m_h, m_w, m_i, m_seth, m_setw, m_seti, look_h, look_w, d_dV, dm_h, dm_w, put_w, put_h, drop_w, eq_any, eq_out, dicOf, locDic, toKey, v_STACK, v_GOES_ON, v_OFF_STACK, v_WILD, v_MOST_WORDS, v_RETURN, v_END, Nat.reduceLT, eqs, ine, atI2_0, atI2_1, atI3_0, atI3_1, atI3_2, atI4_0, atI4_1, atI4_2, atI4_3, atI1_0, decide_true, decide_false, decide_eq_false, gEqT, in_str, isS, strIn, Bool.or_false, Bool.false_or, Bool.true_or, Bool.or_true, Bool.and_true, Bool.true_and, Bool.and_false, Bool.false_and, List.all_cons, List.all_nil, nes, is_non, is_int, eUn, neg_int, gB, bTup, bMore, bVar, bNone, Option.bind_some, st_h, st_hA, gd_any, d_out, d_any, f_q_Machine_do, b_q_Machine_do, dI, Mc.exec]
  | branch i => simp (disch := first | omega | decide) only [fnM, startE, finR, List.length_cons, List.length_nil, List.map_cons, List.map_nil, if_true, if_false, sSeq, sBind, sAsg, sRet, sRetN, sNil, sIf, sExpr, sPar, bindE, eOp, eVar, eC, eCallB, eCall, eCons, eNil, eTup, eLst, eIf, vAnd, vOr, vNot, bAnd, bOr, bNot, asB, liftO, gVar, onlyN, List.replicate, List.append_nil, List.cons_append, List.nil_append, List.getElem?_cons_zero, List.getElem?_cons_succ, List.set_cons_zero, List.set_cons_succ, Nat.reduceAdd, Nat.reduceSub, Nat.reduceLeDiff, Bool.false_eq_true, Bool.not_true, Bool.not_false, reduceIte, Nat.reduceEqDiff, d_int, d_str, d_bl, d_non, d_tup, d_ftp, d_lst, d_fls, d_dic, d_ty, d_locL, d_locD, add_int, sub_int, mul_int, mod_int, div_int, lt_int, le_int, gt_int, ge_int, int_int, len_lst, len_tup, len_fls, idx_lst, idx_tup, idx_dicS, idx_dicI, eFld, eMeth, sFldM, gFld, gSubM, eGet2, ePop2, eChain, i_at, eq_self, l_num, l_base, l_sp, l_held, l_words, p_sp, f_len5, l_m0, l_m1, l_m2, l_m3, l_m4, l_m5, l_m6, l_m7, l_m8, l_m9, m_h, m_w, m_i, m_seth, m_setw, m_seti, look_h, look_w, d_dV, dm_h, dm_w, put_w, put_h, drop_w, eq_any, eq_out, dicOf, locDic, toKey, v_STACK, v_GOES_ON, v_OFF_STACK, v_WILD, v_MOST_WORDS, v_RETURN, v_END, Nat.reduceLT, eqs, ine, atI2_0, atI2_1, atI3_0, atI3_1, atI3_2, atI4_0, atI4_1, atI4_2, atI4_3, atI1_0, decide_true, decide_false, decide_eq_false, gEqT, in_str, isS, strIn, Bool.or_false, Bool.false_or, Bool.true_or, Bool.or_true, Bool.and_true, Bool.true_and, Bool.and_false, Bool.false_and, List.all_cons, List.all_nil, nes, is_non, is_int, eUn, neg_int, gB, bTup, bMore, bVar, bNone, Option.bind_some, st_h, st_hA, gd_any, d_out, d_any, f_q_Machine_do, b_q_Machine_do, dI, Mc.exec]
  | ret => simp (disch := first | omega | decide) only [fnM, startE, finR, List.length_cons, List.length_nil, List.map_cons, List.map_nil, if_true, if_false, sSeq, sBind, sAsg, sRet, sRetN, sNil, sIf, sExpr, sPar, bindE, eOp, eVar, eC, eCallB, eCall, eCons, eNil, eTup, eLst, eIf, vAnd, vOr, vNot, bAnd, bOr, bNot, asB, liftO, gVar, onlyN, List.replicate, List.append_nil, List.cons_append, List.nil_append, List.getElem?_cons_zero, List.getElem?_cons_succ, List.set_cons_zero, List.set_cons_succ, Nat.reduceAdd, Nat.reduceSub, Nat.reduceLeDiff, Bool.false_eq_true, Bool.not_true, Bool.not_false, reduceIte, Nat.reduceEqDiff, d_int, d_str, d_bl, d_non, d_tup, d_ftp, d_lst, d_fls, d_dic, d_ty, d_locL, d_locD, add_int, sub_int, mul_int, mod_int, div_int, lt_int, le_int, gt_int, ge_int, int_int, len_lst, len_tup, len_fls, idx_lst, idx_tup, idx_dicS, idx_dicI, eFld, eMeth, sFldM, gFld, gSubM, eGet2, ePop2, eChain, i_at, eq_self, l_num, l_base, l_sp, l_held, l_words, p_sp, f_len5, l_m0, l_m1, l_m2, l_m3, l_m4, l_m5, l_m6, l_m7, l_m8, l_m9, m_h, m_w, m_i, m_seth, m_setw, m_seti, look_h, look_w, d_dV, dm_h, dm_w, put_w, put_h, drop_w, eq_any, eq_out, dicOf, locDic, toKey, v_STACK, v_GOES_ON, v_OFF_STACK, v_WILD, v_MOST_WORDS, v_RETURN, v_END, Nat.reduceLT, eqs, ine, atI2_0, atI2_1, atI3_0, atI3_1, atI3_2, atI4_0, atI4_1, atI4_2, atI4_3, atI1_0, decide_true, decide_false, decide_eq_false, gEqT, in_str, isS, strIn, Bool.or_false, Bool.false_or, Bool.true_or, Bool.or_true, Bool.and_true, Bool.true_and, Bool.and_false, Bool.false_and, List.all_cons, List.all_nil, nes, is_non, is_int, eUn, neg_int, gB, bTup, bMore, bVar, bNone, Option.bind_some, st_h, st_hA, gd_any, d_out, d_any, f_q_Machine_do, b_q_Machine_do, dI, Mc.exec]
end
end U
set_option Elab.async false
set_option linter.all false
set_option maxRecDepth 100000
set_option maxHeartbeats 4000000
namespace U
open PySem Sh L2
/-! ### stops -/
structure Stp where
  at_ : Int
  sp : Int
  h : Hd
  w : Ws
deriving DecidableEq
def dP (p : Int × Vl) : D := .tup [.int p.1, dV p.2]
def Hd.l (h : Hd) : List D := [dV h.p, dV h.q, dV h.r, dV h.s, dV h.x, dV h.y]
def dStop (t : Stp) : D := .tup [.int t.at_, .int t.sp, .tup t.h.l, .ftp (t.w.map dP)]
def tellW (w : Ws) : Ws := (sortI (keysW w)).map fun a => (a, (Ws.get w a).getD .any)
section
variable {S : Sto} {m : Mc}
theorem allKI_w : ∀ w : Ws, allKI (Ws.d w) = some (keysW w)
  | [] => rfl
  | p :: r => by
    have := allKI_w r
    simp only [Ws.d, keysW, List.map_cons, allKI] at this ⊢
    rw [this]; rfl
theorem sorted_w {w : Ws} (hl : w.length < 1000) : gSorted [.dic (Ws.d w)] = some (.lst ((sortI (keysW w)).map .int)) := by
  simp only [gSorted, allKI_w]
  rw [if_pos (by simp [keysW]; exact hl)]
theorem insI_mem {x a : Int} : ∀ {l : List Int}, a ∈ insI x l ↔ a = x ∨ a ∈ l
  | [] => by simp [insI]
  | y :: r => by
    unfold insI
    split
    · simp
    · simp [insI_mem (l := r)]
      constructor
      · rintro (h | h | h) <;> simp [h]
      · rintro (h | h | h) <;> simp [h]
theorem sortI_mem {a : Int} : ∀ {l : List Int}, a ∈ sortI l ↔ a ∈ l
  | [] => by simp [sortI]
  | x :: r => by simp [sortI, insI_mem, sortI_mem (l := r)]
theorem insI_len {x : Int} : ∀ {l : List Int}, (insI x l).length = l.length + 1
  | [] => rfl
  | y :: r => by
    unfold insI
    split
    · rfl
    · simp [insI_len (l := r)]
theorem sortI_len : ∀ {l : List Int}, (sortI l).length = l.length
  | [] => rfl
  | x :: r => by simp [sortI, insI_len, sortI_len (l := r)]
theorem get_mem {w : Ws} {a : Int} (h : a ∈ keysW w) : ∃ v, Ws.get w a = some v := by
  unfold Ws.get
  obtain ⟨p, hp, rfl⟩ := List.mem_map.mp h
  cases q : w.find? fun x => decide (x.1 = p.1) with
  | some u => exact ⟨u.2, rfl⟩
  | none =>
    have := List.find?_eq_none.mp q p hp
    simp at this
theorem tup_lst {xs : List D} : gTuple [.lst xs] = some (.tup xs) := rfl
theorem tupF_lst {xs : List D} : gTupleF [.lst xs] = some (.ftp xs) := rfl
def fP (w : Ws) : D → D
  | .int a => dP (a, (Ws.get w a).getD .any)
  | d => d
theorem told_eq (a : Int) (hl : m.w.length < 1000) : f_q_Machine_told [.loc (S.length + 2), .int a] (ms S m) = .ok (dStop ⟨a, m.sp, m.h, tellW m.w⟩) (ms S m) := by
  have hk : (List.map D.int (sortI (keysW m.w))).length ≤ 199999 := by simp [keysW, sortI_len]; omega
  have lh : ∀ g : Rg, dLook m.h.d (.inr g.n) = some (dV (m.h.get g)) := look_h m.h
  have l1 := lh .p; have l2 := lh .q; have l3 := lh .r; have l4 := lh .s; have l5 := lh .x; have l6 := lh .y
  simp only [Rg.n, Hd.get] at l1 l2 l3 l4 l5 l6
  simp (disch := first | omega | decide | rfl | simp only [List.length_map]) only [fnM, startE, finR, List.length_cons, List.length_nil, List.map_cons, List.map_nil, if_true, if_false, sSeq, sBind, sAsg, sRet, sRetN, sNil, sIf, sExpr, sPar, bindE, eOp, eVar, eC, eCallB, eCall, eCons, eNil, eTup, eLst, eIf, vAnd, vOr, vNot, bAnd, bOr, bNot, asB, liftO, gVar, onlyN, List.replicate, List.append_nil, List.cons_append, List.nil_append, List.getElem?_cons_zero, List.getElem?_cons_succ, List.set_cons_zero, List.set_cons_succ, Nat.reduceAdd, Nat.reduceSub, Nat.reduceLeDiff, Bool.false_eq_true, Bool.not_true, Bool.not_false, reduceIte, Nat.reduceEqDiff, d_int, d_str, d_bl, d_non, d_tup, d_ftp, d_lst, d_fls, d_dic, d_ty, d_locL, d_locD, add_int, sub_int, mul_int, mod_int, div_int, lt_int, le_int, gt_int, ge_int, int_int, len_lst, len_tup, len_fls, idx_lst, idx_tup, idx_dicS, idx_dicI, eFld, eMeth, sFldM, gFld, gSubM, eGet2, ePop2, eChain, i_at, eq_self, l_num, l_base, l_sp, l_held, l_words, p_sp, f_len5, l_m0, l_m1, l_m2, l_m3, l_m4, l_m5, l_m6, l_m7, l_m8, l_m9, m_h, m_w, m_i, m_seth, m_setw, m_seti, look_h, look_w, d_dV, dm_h, dm_w, put_w, put_h, drop_w, eq_any, eq_out, dicOf, locDic, toKey, v_STACK, v_GOES_ON, v_OFF_STACK, v_WILD, v_MOST_WORDS, v_RETURN, v_END, Nat.reduceLT, eqs, ine, atI2_0, atI2_1, atI3_0, atI3_1, atI3_2, atI4_0, atI4_1, atI4_2, atI4_3, atI1_0, decide_true, decide_false, decide_eq_false, gEqT, in_str, isS, strIn, Bool.or_false, Bool.false_or, Bool.true_or, Bool.or_true, Bool.and_true, Bool.true_and, Bool.and_false, Bool.false_and, List.all_cons, List.all_nil, nes, is_non, is_int, eUn, neg_int, gB, bTup, bMore, bVar, bNone, Option.bind_some, st_h, st_hA, gd_any, d_out, d_any, lcF_n, lcL, sLoopF_n, sLoop, eSrc, eLc, sFor, fuelOf, wipeE, bYes, Option.map_some, Option.map_none, Option.getD_some, Option.getD_none, tup_lst, tupF_lst, f_q_Machine_told, b_q_Machine_told, v_REGISTERS, l1, l2, l3, l4, l5, l6, sorted_w hl, hk]
  rw [lcL_pure (fun _ => true) (fP m.w) (fun d hd => by
    obtain ⟨x, hx, rfl⟩ := List.mem_map.mp hd
    obtain ⟨v, hv⟩ := get_mem (sortI_mem.mp hx)
    refine ⟨_, rfl, rfl, fun _ => ?_⟩
    simp (disch := first | omega | decide | rfl | simp only [List.length_map]) only [fnM, startE, finR, List.length_cons, List.length_nil, List.map_cons, List.map_nil, if_true, if_false, sSeq, sBind, sAsg, sRet, sRetN, sNil, sIf, sExpr, sPar, bindE, eOp, eVar, eC, eCallB, eCall, eCons, eNil, eTup, eLst, eIf, vAnd, vOr, vNot, bAnd, bOr, bNot, asB, liftO, gVar, onlyN, List.replicate, List.append_nil, List.cons_append, List.nil_append, List.getElem?_cons_zero, List.getElem?_cons_succ, List.set_cons_zero, List.set_cons_succ, Nat.reduceAdd, Nat.reduceSub, Nat.reduceLeDiff, Bool.false_eq_true, Bool.not_true, Bool.not_false, reduceIte, Nat.reduceEqDiff, d_int, d_str, d_bl, d_non, d_tup, d_ftp, d_lst, d_fls, d_dic, d_ty, d_locL, d_locD, add_int, sub_int, mul_int, mod_int, div_int, lt_int, le_int, gt_int, ge_int, int_int, len_lst, len_tup, len_fls, idx_lst, idx_tup, idx_dicS, idx_dicI, eFld, eMeth, sFldM, gFld, gSubM, eGet2, ePop2, eChain, i_at, eq_self, l_num, l_base, l_sp, l_held, l_words, p_sp, f_len5, l_m0, l_m1, l_m2, l_m3, l_m4, l_m5, l_m6, l_m7, l_m8, l_m9, m_h, m_w, m_i, m_seth, m_setw, m_seti, look_h, look_w, d_dV, dm_h, dm_w, put_w, put_h, drop_w, eq_any, eq_out, dicOf, locDic, toKey, v_STACK, v_GOES_ON, v_OFF_STACK, v_WILD, v_MOST_WORDS, v_RETURN, v_END, Nat.reduceLT, eqs, ine, atI2_0, atI2_1, atI3_0, atI3_1, atI3_2, atI4_0, atI4_1, atI4_2, atI4_3, atI1_0, decide_true, decide_false, decide_eq_false, gEqT, in_str, isS, strIn, Bool.or_false, Bool.false_or, Bool.true_or, Bool.or_true, Bool.and_true, Bool.true_and, Bool.and_false, Bool.false_and, List.all_cons, List.all_nil, nes, is_non, is_int, eUn, neg_int, gB, bTup, bMore, bVar, bNone, Option.bind_some, st_h, st_hA, gd_any, d_out, d_any, lcF_n, lcL, sLoopF_n, sLoop, eSrc, eLc, sFor, fuelOf, wipeE, bYes, Option.map_some, Option.map_none, Option.getD_some, Option.getD_none, tup_lst, tupF_lst, hv, fP, dP])]
  simp (disch := first | omega | decide | rfl | simp only [List.length_map]) only [fnM, startE, finR, List.length_cons, List.length_nil, List.map_cons, List.map_nil, if_true, if_false, sSeq, sBind, sAsg, sRet, sRetN, sNil, sIf, sExpr, sPar, bindE, eOp, eVar, eC, eCallB, eCall, eCons, eNil, eTup, eLst, eIf, vAnd, vOr, vNot, bAnd, bOr, bNot, asB, liftO, gVar, onlyN, List.replicate, List.append_nil, List.cons_append, List.nil_append, List.getElem?_cons_zero, List.getElem?_cons_succ, List.set_cons_zero, List.set_cons_succ, Nat.reduceAdd, Nat.reduceSub, Nat.reduceLeDiff, Bool.false_eq_true, Bool.not_true, Bool.not_false, reduceIte, Nat.reduceEqDiff, d_int, d_str, d_bl, d_non, d_tup, d_ftp, d_lst, d_fls, d_dic, d_ty, d_locL, d_locD, add_int, sub_int, mul_int, mod_int, div_int, lt_int, le_int, gt_int, ge_int, int_int, len_lst, len_tup, len_fls, idx_lst, idx_tup, idx_dicS, idx_dicI, eFld, eMeth, sFldM, gFld, gSubM, eGet2, ePop2, eChain, i_at, eq_self, l_num, l_base, l_sp, l_held, l_words, p_sp, f_len5, l_m0, l_m1, l_m2, l_m3, l_m4, l_m5, l_m6, l_m7, l_m8, l_m9, m_h, m_w, m_i, m_seth, m_setw, m_seti, look_h, look_w, d_dV, dm_h, dm_w, put_w, put_h, drop_w, eq_any, eq_out, dicOf, locDic, toKey, v_STACK, v_GOES_ON, v_OFF_STACK, v_WILD, v_MOST_WORDS, v_RETURN, v_END, Nat.reduceLT, eqs, ine, atI2_0, atI2_1, atI3_0, atI3_1, atI3_2, atI4_0, atI4_1, atI4_2, atI4_3, atI1_0, decide_true, decide_false, decide_eq_false, gEqT, in_str, isS, strIn, Bool.or_false, Bool.false_or, Bool.true_or, Bool.or_true, Bool.and_true, Bool.true_and, Bool.and_false, Bool.false_and, List.all_cons, List.all_nil, nes, is_non, is_int, eUn, neg_int, gB, bTup, bMore, bVar, bNone, Option.bind_some, st_h, st_hA, gd_any, d_out, d_any, lcF_n, lcL, sLoopF_n, sLoop, eSrc, eLc, sFor, fuelOf, wipeE, bYes, Option.map_some, Option.map_none, Option.getD_some, Option.getD_none, tup_lst, tupF_lst]
  congr 1
  simp only [dStop, Hd.l, tellW, List.map_map]
  congr 5
  rw [List.filter_eq_self.mpr fun _ _ => rfl, List.map_map]
  rfl
end
end U
set_option Elab.async false
set_option linter.all false
set_option maxRecDepth 100000
set_option maxHeartbeats 4000000
namespace U
open PySem Sh L2
def raw (S : Sto) (h : Hd) (w : Ws) (fs : List (Str × D)) : Sto := S ++ [.dic h.d, .dic (Ws.d w), .ins 0 fs]
def f1 (num : Int) : List (Str × D) := [("number", .int num)]
def f2 (num base : Int) : List (Str × D) := [("number", .int num), ("base", .int base)]
def f3 (num base sp : Int) : List (Str × D) := [("number", .int num), ("base", .int base), ("sp", .int sp)]
def f4 (num base sp : Int) (L : Nat) : List (Str × D) := [("number", .int num), ("base", .int base), ("sp", .int sp), ("held", .loc L)]
section
variable {S : Sto} {h : Hd} {w : Ws} {fs fs' : List (Str × D)} {num base sp : Int}
theorem raw_i : (raw S h w fs)[S.length + 2]? = some (.ins 0 fs) := by simp [raw, List.getElem?_append_right]
theorem raw_at : insAt (raw S h w fs) 0 (.loc (S.length + 2)) = some (S.length + 2, fs) := by
  simp only [insAt, raw_i, if_true]
theorem raw_set : (raw S h w fs).set (S.length + 2) (.ins 0 fs') = raw S h w fs' := by simp [raw, List.set_append_right]
theorem init_eq : f_q_Machine___init__ [.loc (S.length + 2), .int num, .int base, .int sp, .loc S.length, .loc (S.length + 1)] (S ++ [.dic h.d, .dic (Ws.d w), .ins 0 []]) = .ok .non (mst S num base sp h w) := by
  show f_q_Machine___init__ _ (raw S h w []) = _
  have p0 : putFD "number" (.int num) [] = f1 num := rfl
  have p1 : putFD "base" (.int base) (f1 num) = f2 num base := rfl
  have p2 : putFD "sp" (.int sp) (f2 num base) = f3 num base sp := rfl
  have p3 : putFD "held" (.loc S.length) (f3 num base sp) = f4 num base sp S.length := rfl
  have p4 : putFD "words" (.loc (S.length + 1)) (f4 num base sp S.length) = flds num base sp S.length := rfl
  have q1 : (f1 num).length = 1 := rfl
  have q2 : (f2 num base).length = 2 := rfl
  have q3 : (f3 num base sp).length = 3 := rfl
  have q4 : (f4 num base sp S.length).length = 4 := rfl
  simp (disch := first | omega | decide | rfl | simp only [List.length_map]) only [fnM, startE, finR, List.length_cons, List.length_nil, List.map_cons, List.map_nil, if_true, if_false, sSeq, sBind, sAsg, sRet, sRetN, sNil, sIf, sExpr, sPar, bindE, eOp, eVar, eC, eCallB, eCall, eCons, eNil, eTup, eLst, eIf, vAnd, vOr, vNot, bAnd, bOr, bNot, asB, liftO, gVar, onlyN, List.replicate, List.append_nil, List.cons_append, List.nil_append, List.getElem?_cons_zero, List.getElem?_cons_succ, List.set_cons_zero, List.set_cons_succ, Nat.reduceAdd, Nat.reduceSub, Nat.reduceLeDiff, Bool.false_eq_true, Bool.not_true, Bool.not_false, reduceIte, Nat.reduceEqDiff, d_int, d_str, d_bl, d_non, d_tup, d_ftp, d_lst, d_fls, d_dic, d_ty, d_locL, d_locD, add_int, sub_int, mul_int, mod_int, div_int, lt_int, le_int, gt_int, ge_int, int_int, len_lst, len_tup, len_fls, idx_lst, idx_tup, idx_dicS, idx_dicI, eFld, eMeth, sFldM, gFld, gSubM, eGet2, ePop2, eChain, i_at, eq_self, l_num, l_base, l_sp, l_held, l_words, p_sp, f_len5, l_m0, l_m1, l_m2, l_m3, l_m4, l_m5, l_m6, l_m7, l_m8, l_m9, m_h, m_w, m_i, m_seth, m_setw, m_seti, look_h, look_w, d_dV, dm_h, dm_w, put_w, put_h, drop_w, eq_any, eq_out, dicOf, locDic, toKey, v_STACK, v_GOES_ON, v_OFF_STACK, v_WILD, v_MOST_WORDS, v_RETURN, v_END, Nat.reduceLT, eqs, ine, atI2_0, atI2_1, atI3_0, atI3_1, atI3_2, atI4_0, atI4_1, atI4_2, atI4_3, atI1_0, decide_true, decide_false, decide_eq_false, gEqT, in_str, isS, strIn, Bool.or_false, Bool.false_or, Bool.true_or, Bool.or_true, Bool.and_true, Bool.true_and, Bool.and_false, Bool.false_and, List.all_cons, List.all_nil, nes, is_non, is_int, eUn, neg_int, gB, bTup, bMore, bVar, bNone, Option.bind_some, st_h, st_hA, gd_any, d_out, d_any, lcF_n, lcL, sLoopF_n, sLoop, eSrc, eLc, sFor, fuelOf, wipeE, bYes, Option.map_some, Option.map_none, Option.getD_some, Option.getD_none, tup_lst, tupF_lst, f_q_Machine___init__, b_q_Machine___init__, raw_at, raw_set, p0, p1, p2, p3, p4, q1, q2, q3, q4]
  rfl
def h0 : Hd := ⟨.fst .p, .fst .q, .fst .r, .fst .s, .fst .x, .fst .y⟩
def m0 : Mc := ⟨0, 0, 0, h0, [(0, .bck)]⟩
def st0 : Stp := ⟨0, 0, h0, [(0, .bck)]⟩
theorem first_values_eq : f_q_first_values [] S = .ok (.loc S.length) (S ++ [.dic h0.d]) := by rfl
theorem first_stop_eq : f_q_first_stop [] S = .ok (dStop st0) (ms S m0) := by
  have hm : mergeD [] [((.inl 0 : Key), v_OUT)] = Ws.d [(0, .bck)] := rfl
  have ht := told_eq (S := S) (m := m0) 0 (by decide)
  have hi := init_eq (S := S) (h := h0) (w := [(0, .bck)]) (num := 0) (base := 0) (sp := 0)
  simp (disch := first | omega | decide | rfl | simp only [List.length_map]) only [fnM, startE, finR, List.length_cons, List.length_nil, List.map_cons, List.map_nil, if_true, if_false, sSeq, sBind, sAsg, sRet, sRetN, sNil, sIf, sExpr, sPar, bindE, eOp, eVar, eC, eCallB, eCall, eCons, eNil, eTup, eLst, eIf, vAnd, vOr, vNot, bAnd, bOr, bNot, asB, liftO, gVar, onlyN, List.replicate, List.append_nil, List.cons_append, List.nil_append, List.getElem?_cons_zero, List.getElem?_cons_succ, List.set_cons_zero, List.set_cons_succ, Nat.reduceAdd, Nat.reduceSub, Nat.reduceLeDiff, Bool.false_eq_true, Bool.not_true, Bool.not_false, reduceIte, Nat.reduceEqDiff, d_int, d_str, d_bl, d_non, d_tup, d_ftp, d_lst, d_fls, d_dic, d_ty, d_locL, d_locD, add_int, sub_int, mul_int, mod_int, div_int, lt_int, le_int, gt_int, ge_int, int_int, len_lst, len_tup, len_fls, idx_lst, idx_tup, idx_dicS, idx_dicI, eFld, eMeth, sFldM, gFld, gSubM, eGet2, ePop2, eChain, i_at, eq_self, l_num, l_base, l_sp, l_held, l_words, p_sp, f_len5, l_m0, l_m1, l_m2, l_m3, l_m4, l_m5, l_m6, l_m7, l_m8, l_m9, m_h, m_w, m_i, m_seth, m_setw, m_seti, look_h, look_w, d_dV, dm_h, dm_w, put_w, put_h, drop_w, eq_any, eq_out, dicOf, locDic, toKey, v_STACK, v_GOES_ON, v_OFF_STACK, v_WILD, v_MOST_WORDS, v_RETURN, v_END, Nat.reduceLT, eqs, ine, atI2_0, atI2_1, atI3_0, atI3_1, atI3_2, atI4_0, atI4_1, atI4_2, atI4_3, atI1_0, decide_true, decide_false, decide_eq_false, gEqT, in_str, isS, strIn, Bool.or_false, Bool.false_or, Bool.true_or, Bool.or_true, Bool.and_true, Bool.true_and, Bool.and_false, Bool.false_and, List.all_cons, List.all_nil, nes, is_non, is_int, eUn, neg_int, gB, bTup, bMore, bVar, bNone, Option.bind_some, st_h, st_hA, gd_any, d_out, d_any, lcF_n, lcL, sLoopF_n, sLoop, eSrc, eLc, sFor, fuelOf, wipeE, bYes, Option.map_some, Option.map_none, Option.getD_some, Option.getD_none, tup_lst, tupF_lst, f_q_first_stop, b_q_first_stop, eMake, first_values_eq, eDicN, ePCons, ePNil, List.length_append, List.append_assoc, mkRes, hm, and_self]
  rw [show (S ++ [O.dic h0.d, O.dic (Ws.d [(0, .bck)]), O.ins 0 []]) = S ++ [O.dic h0.d, O.dic (Ws.d [(0, .bck)]), O.ins 0 []] from rfl, hi]
  have ht' : f_q_Machine_told [.loc (S.length + 2), .int 0] (mst S 0 0 0 h0 [(0, .bck)]) = .ok (dStop ⟨0, 0, h0, tellW [(0, .bck)]⟩) (ms S m0) := ht
  simp (disch := first | omega | decide | rfl | simp only [List.length_map]) only [fnM, startE, finR, List.length_cons, List.length_nil, List.map_cons, List.map_nil, if_true, if_false, sSeq, sBind, sAsg, sRet, sRetN, sNil, sIf, sExpr, sPar, bindE, eOp, eVar, eC, eCallB, eCall, eCons, eNil, eTup, eLst, eIf, vAnd, vOr, vNot, bAnd, bOr, bNot, asB, liftO, gVar, onlyN, List.replicate, List.append_nil, List.cons_append, List.nil_append, List.getElem?_cons_zero, List.getElem?_cons_succ, List.set_cons_zero, List.set_cons_succ, Nat.reduceAdd, Nat.reduceSub, Nat.reduceLeDiff, Bool.false_eq_true, Bool.not_true, Bool.not_false, reduceIte, Nat.reduceEqDiff, d_int, d_str, d_bl, d_non, d_tup, d_ftp, d_lst, d_fls, d_dic, d_ty, d_locL, d_locD, add_int, sub_int, mul_int, mod_int, div_int, lt_int, le_int, gt_int, ge_int, int_int, len_lst, len_tup, len_fls, idx_lst, idx_tup, idx_dicS, idx_dicI, eFld, eMeth, sFldM, gFld, gSubM, eGet2, ePop2, eChain, i_at, eq_self, l_num, l_base, l_sp, l_held, l_words, p_sp, f_len5, l_m0, l_m1, l_m2, l_m3, l_m4, l_m5, l_m6, l_m7, l_m8, l_m9, m_h, m_w, m_i, m_seth, m_setw, m_seti, look_h, look_w, d_dV, dm_h, dm_w, put_w, put_h, drop_w, eq_any, eq_out, dicOf, locDic, toKey, v_STACK, v_GOES_ON, v_OFF_STACK, v_WILD, v_MOST_WORDS, v_RETURN, v_END, Nat.reduceLT, eqs, ine, atI2_0, atI2_1, atI3_0, atI3_1, atI3_2, atI4_0, atI4_1, atI4_2, atI4_3, atI1_0, decide_true, decide_false, decide_eq_false, gEqT, in_str, isS, strIn, Bool.or_false, Bool.false_or, Bool.true_or, Bool.or_true, Bool.and_true, Bool.true_and, Bool.and_false, Bool.false_and, List.all_cons, List.all_nil, nes, is_non, is_int, eUn, neg_int, gB, bTup, bMore, bVar, bNone, Option.bind_some, st_h, st_hA, gd_any, d_out, d_any, lcF_n, lcL, sLoopF_n, sLoop, eSrc, eLc, sFor, fuelOf, wipeE, bYes, Option.map_some, Option.map_none, Option.getD_some, Option.getD_none, tup_lst, tupF_lst, ht']
  rfl
/-! ### where a run goes on -/
def nxt (i : Ins) (at_ : Int) : List Int := match i with
  | .jump j => [j]
  | .branch j => sortI (onceI [j, at_ + 1])
  | _ => [at_ + 1]
theorem next_places_eq (i : Ins) (a : Int) : f_q_next_places [dI i, .int a] S = .ok (.lst ((nxt i a).map .int)) S := by
  have hs : ∀ x y : Int, gSortSet [.lst [.int x, .int y]] = some (.lst ((sortI (onceI [x, y])).map .int)) := fun _ _ => rfl
  cases i <;> simp (disch := first | omega | decide | rfl | simp only [List.length_map]) only [fnM, startE, finR, List.length_cons, List.length_nil, List.map_cons, List.map_nil, if_true, if_false, sSeq, sBind, sAsg, sRet, sRetN, sNil, sIf, sExpr, sPar, bindE, eOp, eVar, eC, eCallB, eCall, eCons, eNil, eTup, eLst, eIf, vAnd, vOr, vNot, bAnd, bOr, bNot, asB, liftO, gVar, onlyN, List.replicate, List.append_nil, List.cons_append, List.nil_append, List.getElem?_cons_zero, List.getElem?_cons_succ, List.set_cons_zero, List.set_cons_succ, Nat.reduceAdd, Nat.reduceSub, Nat.reduceLeDiff, Bool.false_eq_true, Bool.not_true, Bool.not_false, reduceIte, Nat.reduceEqDiff, d_int, d_str, d_bl, d_non, d_tup, d_ftp, d_lst, d_fls, d_dic, d_ty, d_locL, d_locD, add_int, sub_int, mul_int, mod_int, div_int, lt_int, le_int, gt_int, ge_int, int_int, len_lst, len_tup, len_fls, idx_lst, idx_tup, idx_dicS, idx_dicI, eFld, eMeth, sFldM, gFld, gSubM, eGet2, ePop2, eChain, i_at, eq_self, l_num, l_base, l_sp, l_held, l_words, p_sp, f_len5, l_m0, l_m1, l_m2, l_m3, l_m4, l_m5, l_m6, l_m7, l_m8, l_m9, m_h, m_w, m_i, m_seth, m_setw, m_seti, look_h, look_w, d_dV, dm_h, dm_w, put_w, put_h, drop_w, eq_any, eq_out, dicOf, locDic, toKey, v_STACK, v_GOES_ON, v_OFF_STACK, v_WILD, v_MOST_WORDS, v_RETURN, v_END, Nat.reduceLT, eqs, ine, atI2_0, atI2_1, atI3_0, atI3_1, atI3_2, atI4_0, atI4_1, atI4_2, atI4_3, atI1_0, decide_true, decide_false, decide_eq_false, gEqT, in_str, isS, strIn, Bool.or_false, Bool.false_or, Bool.true_or, Bool.or_true, Bool.and_true, Bool.true_and, Bool.and_false, Bool.false_and, List.all_cons, List.all_nil, nes, is_non, is_int, eUn, neg_int, gB, bTup, bMore, bVar, bNone, Option.bind_some, st_h, st_hA, gd_any, d_out, d_any, lcF_n, lcL, sLoopF_n, sLoop, eSrc, eLc, sFor, fuelOf, wipeE, bYes, Option.map_some, Option.map_none, Option.getD_some, Option.getD_none, tup_lst, tupF_lst, f_q_next_places, b_q_next_places, dI, nxt, hs]
end
end U
set_option Elab.async false
set_option linter.all false
set_option maxRecDepth 100000
set_option maxHeartbeats 4000000
namespace U
open PySem Sh L2
/-! ### the next stops -/
def dC (code : List Ins) : D := .tup (code.map dI)
def isRet : Ins → Bool
  | .ret => true
  | _ => false
def Stp.m (t : Stp) : Mc := ⟨0, 0, t.sp, t.h, t.w⟩
def Mc.tell (m : Mc) (a : Int) : Stp := ⟨a, m.sp, m.h, tellW m.w⟩
def sucI (n : Int) (t : Stp) (i : Ins) : List Stp × List Str :=
  if isRet i = true then ([], if t.sp = 0 ∧ isBck ((Ws.get t.w 0).getD .any) = true then [] else ["return"])
  else if (t.m.exec i).1 = "" then (((nxt i t.at_).filter fun a => decide (a < n)).map (t.m.exec i).2.tell, if n ∈ nxt i t.at_ then ["end"] else [])
  else ([], [(t.m.exec i).1])
theorem in_ints {x : Int} {l : List Int} : gIn (.int x) (.lst (l.map .int)) = some (.bl (decide (x ∈ l))) := by
  have h1 : (l.map D.int).all flatD = true := by
    rw [List.all_eq_true]
    intro d hd
    obtain ⟨a, _, rfl⟩ := List.mem_map.mp hd
    rfl
  have h2 : ((l.map D.int).any fun y => eqF y (.int x)) = decide (x ∈ l) := by
    rw [List.any_map, Bool.eq_iff_iff, List.any_eq_true, decide_eq_true_iff]
    constructor
    · rintro ⟨a, ha, h⟩
      have : a = x := by simpa [eqF] using h
      exact this ▸ ha
    · intro h
      exact ⟨x, h, by simp [eqF]⟩
  show (if flatD (.int x) && (l.map D.int).all flatD then some (D.bl (false ^^ (l.map D.int).any fun y => eqF y (.int x))) else none) = _
  rw [h1, h2]
  simp [flatD]
theorem setW_len {w : Ws} {a : Int} {v : Vl} : (setW w a v).length ≤ w.length + 1 := by
  unfold setW
  split
  · exact Nat.le_succ_of_le (List.length_filter_le _ _)
  · unfold Ws.put
    split
    · simp
    · simp
theorem exec_len (m : Mc) (i : Ins) : (m.exec i).2.w.length ≤ m.w.length + 1 := by
  have h1 : ∀ a, (m.go a).2.w = m.w := fun a => by unfold Mc.go; split <;> rfl
  cases i <;> simp only [Mc.exec]
  case push g => split <;> first | exact setW_len | exact Nat.le_succ _
  case pop g => split <;> exact Nat.le_succ _
  case grow n => rw [h1]; exact Nat.le_succ _
  case shrink n => rw [h1]; exact Nat.le_succ _
  case setsp g n =>
    cases m.adr (.rg g) with
    | none => exact Nat.le_succ _
    | some a => simp only; rw [h1]; exact Nat.le_succ _
  case store b n g =>
    cases m.adr b with
    | none => exact Nat.le_succ _
    | some a => simp only; split <;> first | exact setW_len | exact Nat.le_succ _
  case load g b n =>
    cases m.adr b with
    | none => exact Nat.le_succ _
    | some a => simp only; split <;> exact Nat.le_succ _
  case call x => exact Nat.le_succ_of_le (List.length_filter_le _ _)
  all_goals exact Nat.le_succ _
theorem pairs_w : ∀ w : Ws, pairsD (w.map dP) = some (Ws.d w)
  | [] => rfl
  | p :: r => by
    have := pairs_w r
    simp only [List.map_cons, pairsD, this, dP, pairD, toKey, Option.map_some]
    rfl
theorem putD_new {kvs : List (Key × D)} {x : Key} {d : D} (h : ∀ p ∈ kvs, p.1 ≠ x) : putD kvs x d = kvs ++ [(x, d)] := by
  unfold putD
  rw [if_neg]
  intro z
  rw [List.any_eq_true] at z
  obtain ⟨p, hp, q⟩ := z
  exact h p hp (of_decide_eq_true q)
theorem merge_nd : ∀ (more kvs : List (Key × D)), ((kvs ++ more).map (·.1)).Nodup → mergeD kvs more = kvs ++ more
  | [], kvs, _ => by simp [mergeD]
  | p :: r, kvs, h => by
    have h1 : ∀ q ∈ kvs, q.1 ≠ p.1 := by
      intro q hq z
      rw [List.map_append, List.nodup_append] at h
      exact h.2.2 _ (List.mem_map_of_mem hq) _ (List.mem_map_of_mem List.mem_cons_self) z
    have : mergeD kvs (p :: r) = mergeD (putD kvs p.1 p.2) r := rfl
    rw [this, putD_new h1, merge_nd r (kvs ++ [(p.1, p.2)]) (by simpa using h)]
    simp
theorem merge_w {w : Ws} (h : NdW w) : mergeD [] (Ws.d w) = Ws.d w := by
  have := merge_nd (Ws.d w) [] (by
    simp only [List.nil_append, Ws.d, List.map_map]
    have e : ((fun x : Key × D => x.1) ∘ fun p : Int × Vl => (Sum.inl p.1, dV p.2)) = (fun a : Int => (Sum.inl a : Key)) ∘ (·.1) := rfl
    rw [e, ← List.map_map]
    exact List.Pairwise.map _ (fun a b hab z => hab (Sum.inl.inj z)) h)
  simpa using this
theorem zip_h (h : Hd) : zipKD [.str "p", .str "q", .str "r", .str "s", .str "x", .str "y"] h.l = some h.d := by rfl
theorem merge_h (h : Hd) : mergeD [] h.d = h.d := by rfl
section
variable {S : Sto}
theorem at_code {code : List Ins} {a : Int} {i : Ins} (h0 : 0 ≤ a) (h : code[a.toNat]? = some i) : atI (code.map dI) a = some (dI i) := by
  have hl := (List.getElem?_eq_some_iff.mp h).1
  unfold atI ixN
  rw [if_pos h0, List.length_map, if_pos (by omega)]
  simp [h]
theorem dI_0 (i : Ins) : ∃ w r, dI i = .tup (.str w :: r) ∧ (isRet i = decide (w = "return")) := by
  cases i <;> exact ⟨_, _, rfl, by rfl⟩
theorem successors_eq (code : List Ins) (t : Stp) (i : Ins) (h0 : 0 ≤ t.at_) (hi : code[t.at_.toNat]? = some i) (hn : NdW t.w) (hl : t.w.length < 999) :
    ∃ m : Mc, f_q_successors [dC code, dStop t] S = .ok (.tup [.lst ((sucI code.length t i).1.map dStop), .lst ((sucI code.length t i).2.map .str)]) (ms S m) := by
  have hc := at_code h0 hi
  obtain ⟨wd, rs, hd, hr⟩ := dI_0 i
  have hmk := init_eq (S := S) (h := t.h) (w := t.w) (num := 0) (base := 0) (sp := t.sp)
  cases c : isRet i with
  | true =>
    rw [c] at hr
    have hw : wd = "return" := of_decide_eq_true hr.symm
    have hs : sucI code.length t i = ([], if t.sp = 0 ∧ isBck ((Ws.get t.w 0).getD .any) = true then [] else [("return" : Str)]) := by simp only [sucI, c, if_true]
    refine ⟨t.m, ?_⟩
    rw [hs]
    by_cases c1 : t.sp = 0
    · rw [c1] at hmk
      cases c2 : isBck ((Ws.get t.w 0).getD .any)
      · simp (disch := first | omega | decide | rfl | simp only [List.length_map]) only [fnM, startE, finR, List.length_cons, List.length_nil, List.map_cons, List.map_nil, if_true, if_false, sSeq, sBind, sAsg, sRet, sRetN, sNil, sIf, sExpr, sPar, bindE, eOp, eVar, eC, eCallB, eCall, eCons, eNil, eTup, eLst, eIf, vAnd, vOr, vNot, bAnd, bOr, bNot, asB, liftO, gVar, onlyN, List.replicate, List.append_nil, List.cons_append, List.nil_append, List.getElem?_cons_zero, List.getElem?_cons_succ, List.set_cons_zero, List.set_cons_succ, Nat.reduceAdd, Nat.reduceSub, Nat.reduceLeDiff, Bool.false_eq_true, Bool.not_true, Bool.not_false, reduceIte, Nat.reduceEqDiff, d_int, d_str, d_bl, d_non, d_tup, d_ftp, d_lst, d_fls, d_dic, d_ty, d_locL, d_locD, add_int, sub_int, mul_int, mod_int, div_int, lt_int, le_int, gt_int, ge_int, int_int, len_lst, len_tup, len_fls, idx_lst, idx_tup, idx_dicS, idx_dicI, eFld, eMeth, sFldM, gFld, gSubM, eGet2, ePop2, eChain, i_at, eq_self, l_num, l_base, l_sp, l_held, l_words, p_sp, f_len5, l_m0, l_m1, l_m2, l_m3, l_m4, l_m5, l_m6, l_m7, l_m8, l_m9, m_h, m_w, m_i, m_seth, m_setw, m_seti, look_h, look_w, d_dV, dm_h, dm_w, put_w, put_h, drop_w, eq_any, eq_out, dicOf, locDic, toKey, v_STACK, v_GOES_ON, v_OFF_STACK, v_WILD, v_MOST_WORDS, v_RETURN, v_END, Nat.reduceLT, eqs, ine, atI2_0, atI2_1, atI3_0, atI3_1, atI3_2, atI4_0, atI4_1, atI4_2, atI4_3, atI1_0, decide_true, decide_false, decide_eq_false, gEqT, in_str, isS, strIn, Bool.or_false, Bool.false_or, Bool.true_or, Bool.or_true, Bool.and_true, Bool.true_and, Bool.and_false, Bool.false_and, List.all_cons, List.all_nil, nes, is_non, is_int, eUn, neg_int, gB, bTup, bMore, bVar, bNone, Option.bind_some, st_h, st_hA, gd_any, d_out, d_any, lcF_n, lcL, sLoopF_n, sLoop, eSrc, eLc, sFor, fuelOf, wipeE, bYes, Option.map_some, Option.map_none, Option.getD_some, Option.getD_none, tup_lst, tupF_lst, f_q_successors, b_q_successors, dStop, dC, hc, hd, at0, hw, eMake, eDictZ, eDictN, notS, sqOf, v_REGISTERS, zip_h, merge_h, pairs_w, merge_w hn, newD, List.length_append, List.append_assoc, mkRes, and_self, hmk, c1, c2, Stp.m, and_false]
      · simp (disch := first | omega | decide | rfl | simp only [List.length_map]) only [fnM, startE, finR, List.length_cons, List.length_nil, List.map_cons, List.map_nil, if_true, if_false, sSeq, sBind, sAsg, sRet, sRetN, sNil, sIf, sExpr, sPar, bindE, eOp, eVar, eC, eCallB, eCall, eCons, eNil, eTup, eLst, eIf, vAnd, vOr, vNot, bAnd, bOr, bNot, asB, liftO, gVar, onlyN, List.replicate, List.append_nil, List.cons_append, List.nil_append, List.getElem?_cons_zero, List.getElem?_cons_succ, List.set_cons_zero, List.set_cons_succ, Nat.reduceAdd, Nat.reduceSub, Nat.reduceLeDiff, Bool.false_eq_true, Bool.not_true, Bool.not_false, reduceIte, Nat.reduceEqDiff, d_int, d_str, d_bl, d_non, d_tup, d_ftp, d_lst, d_fls, d_dic, d_ty, d_locL, d_locD, add_int, sub_int, mul_int, mod_int, div_int, lt_int, le_int, gt_int, ge_int, int_int, len_lst, len_tup, len_fls, idx_lst, idx_tup, idx_dicS, idx_dicI, eFld, eMeth, sFldM, gFld, gSubM, eGet2, ePop2, eChain, i_at, eq_self, l_num, l_base, l_sp, l_held, l_words, p_sp, f_len5, l_m0, l_m1, l_m2, l_m3, l_m4, l_m5, l_m6, l_m7, l_m8, l_m9, m_h, m_w, m_i, m_seth, m_setw, m_seti, look_h, look_w, d_dV, dm_h, dm_w, put_w, put_h, drop_w, eq_any, eq_out, dicOf, locDic, toKey, v_STACK, v_GOES_ON, v_OFF_STACK, v_WILD, v_MOST_WORDS, v_RETURN, v_END, Nat.reduceLT, eqs, ine, atI2_0, atI2_1, atI3_0, atI3_1, atI3_2, atI4_0, atI4_1, atI4_2, atI4_3, atI1_0, decide_true, decide_false, decide_eq_false, gEqT, in_str, isS, strIn, Bool.or_false, Bool.false_or, Bool.true_or, Bool.or_true, Bool.and_true, Bool.true_and, Bool.and_false, Bool.false_and, List.all_cons, List.all_nil, nes, is_non, is_int, eUn, neg_int, gB, bTup, bMore, bVar, bNone, Option.bind_some, st_h, st_hA, gd_any, d_out, d_any, lcF_n, lcL, sLoopF_n, sLoop, eSrc, eLc, sFor, fuelOf, wipeE, bYes, Option.map_some, Option.map_none, Option.getD_some, Option.getD_none, tup_lst, tupF_lst, f_q_successors, b_q_successors, dStop, dC, hc, hd, at0, hw, eMake, eDictZ, eDictN, notS, sqOf, v_REGISTERS, zip_h, merge_h, pairs_w, merge_w hn, newD, List.length_append, List.append_assoc, mkRes, and_self, hmk, c1, c2, Stp.m]
    · simp (disch := first | omega | decide | rfl | simp only [List.length_map]) only [fnM, startE, finR, List.length_cons, List.length_nil, List.map_cons, List.map_nil, if_true, if_false, sSeq, sBind, sAsg, sRet, sRetN, sNil, sIf, sExpr, sPar, bindE, eOp, eVar, eC, eCallB, eCall, eCons, eNil, eTup, eLst, eIf, vAnd, vOr, vNot, bAnd, bOr, bNot, asB, liftO, gVar, onlyN, List.replicate, List.append_nil, List.cons_append, List.nil_append, List.getElem?_cons_zero, List.getElem?_cons_succ, List.set_cons_zero, List.set_cons_succ, Nat.reduceAdd, Nat.reduceSub, Nat.reduceLeDiff, Bool.false_eq_true, Bool.not_true, Bool.not_false, reduceIte, Nat.reduceEqDiff, d_int, d_str, d_bl, d_non, d_tup, d_ftp, d_lst, d_fls, d_dic, d_ty, d_locL, d_locD, add_int, sub_int, mul_int, mod_int, div_int, lt_int, le_int, gt_int, ge_int, int_int, len_lst, len_tup, len_fls, idx_lst, idx_tup, idx_dicS, idx_dicI, eFld, eMeth, sFldM, gFld, gSubM, eGet2, ePop2, eChain, i_at, eq_self, l_num, l_base, l_sp, l_held, l_words, p_sp, f_len5, l_m0, l_m1, l_m2, l_m3, l_m4, l_m5, l_m6, l_m7, l_m8, l_m9, m_h, m_w, m_i, m_seth, m_setw, m_seti, look_h, look_w, d_dV, dm_h, dm_w, put_w, put_h, drop_w, eq_any, eq_out, dicOf, locDic, toKey, v_STACK, v_GOES_ON, v_OFF_STACK, v_WILD, v_MOST_WORDS, v_RETURN, v_END, Nat.reduceLT, eqs, ine, atI2_0, atI2_1, atI3_0, atI3_1, atI3_2, atI4_0, atI4_1, atI4_2, atI4_3, atI1_0, decide_true, decide_false, decide_eq_false, gEqT, in_str, isS, strIn, Bool.or_false, Bool.false_or, Bool.true_or, Bool.or_true, Bool.and_true, Bool.true_and, Bool.and_false, Bool.false_and, List.all_cons, List.all_nil, nes, is_non, is_int, eUn, neg_int, gB, bTup, bMore, bVar, bNone, Option.bind_some, st_h, st_hA, gd_any, d_out, d_any, lcF_n, lcL, sLoopF_n, sLoop, eSrc, eLc, sFor, fuelOf, wipeE, bYes, Option.map_some, Option.map_none, Option.getD_some, Option.getD_none, tup_lst, tupF_lst, f_q_successors, b_q_successors, dStop, dC, hc, hd, at0, hw, eMake, eDictZ, eDictN, notS, sqOf, v_REGISTERS, zip_h, merge_h, pairs_w, merge_w hn, newD, List.length_append, List.append_assoc, mkRes, and_self, hmk, c1, Stp.m, false_and]
  | false =>
    rw [c] at hr
    have hw : ¬ wd = "return" := of_decide_eq_false hr.symm
    have hdo := do_eq (S := S) (m := t.m) i hn (by show t.w.length < 1000; omega)
    have hdo' : f_q_Machine_do [.loc (S.length + 2), .tup (.str wd :: rs)] (mst S 0 0 t.sp t.h t.w) = .ok (.str (t.m.exec i).1) (ms S (t.m.exec i).2) := by rw [← hd]; exact hdo
    have hnp := next_places_eq (S := ms S (t.m.exec i).2) i t.at_
    rw [hd] at hnp
    refine ⟨(t.m.exec i).2, ?_⟩
    by_cases c1 : (t.m.exec i).1 = ""
    · have hs : sucI code.length t i = (((nxt i t.at_).filter fun a => decide (a < (code.length : Int))).map (t.m.exec i).2.tell, if (code.length : Int) ∈ nxt i t.at_ then [("end" : Str)] else []) := by simp only [sucI, c, c1, if_true, Bool.false_eq_true, if_false]
      have hll : (t.m.exec i).2.w.length < 1000 := Nat.lt_of_le_of_lt (exec_len t.m i) (by show t.w.length + 1 < 1000; omega)
      have hk : (nxt i t.at_).length ≤ 199999 := by
        cases i <;> simp [nxt, sortI_len, onceI] <;> split <;> simp
      have hin : ∀ b : Bool, b = decide ((code.length : Int) ∈ nxt i t.at_) → (if (code.length : Int) ∈ nxt i t.at_ then [("end" : Str)] else []) = if b = true then [("end" : Str)] else [] := fun b hb => by
        subst hb
        by_cases z : (code.length : Int) ∈ nxt i t.at_ <;> simp [z]
      rw [hs]
      have hlc : ∀ e : Sh.Env, e[0]? = some (some (.tup (code.map dI))) → e[3]? = some (some (.loc (S.length + 2))) → 10 < e.length → lcL (bVar 10) (asB (eOp gLt (eVar 10) (eCallB gLen (eCons (eVar 0) (eNil))))) (eMeth 0 "told" f_q_Machine_told (eVar 3) (eCons (eVar 10) (eNil))) e ((nxt i t.at_).map D.int) (ms S (t.m.exec i).2) = .ok ((((nxt i t.at_).filter fun a => decide (a < (code.length : Int))).map (t.m.exec i).2.tell).map dStop) (ms S (t.m.exec i).2) := by
        intro e he he3 hle
        rw [lcL_pure (fun d => match d with | .int a => decide (a < (code.length : Int)) | _ => false) (fun d => match d with | .int a => dStop ((t.m.exec i).2.tell a) | d => d) (fun d hd => by
          obtain ⟨a, _, rfl⟩ := List.mem_map.mp hd
          have g0 : (e.set 10 (some (D.int a)))[0]? = some (some (.tup (code.map dI))) := by rw [List.getElem?_set_ne (by decide)]; exact he
          have g3 : (e.set 10 (some (D.int a)))[3]? = some (some (.loc (S.length + 2))) := by rw [List.getElem?_set_ne (by decide)]; exact he3
          have g10 : (e.set 10 (some (D.int a)))[10]? = some (some (D.int a)) := by rw [List.getElem?_set_self (by omega)]
          refine ⟨e.set 10 (some (D.int a)), rfl, ?_, fun _ => ?_⟩
          · simp (disch := first | omega | decide | rfl | simp only [List.length_map]) only [fnM, startE, finR, List.length_cons, List.length_nil, List.map_cons, List.map_nil, if_true, if_false, sSeq, sBind, sAsg, sRet, sRetN, sNil, sIf, sExpr, sPar, bindE, eOp, eVar, eC, eCallB, eCall, eCons, eNil, eTup, eLst, eIf, vAnd, vOr, vNot, bAnd, bOr, bNot, asB, liftO, gVar, onlyN, List.replicate, List.append_nil, List.cons_append, List.nil_append, List.getElem?_cons_zero, List.getElem?_cons_succ, List.set_cons_zero, List.set_cons_succ, Nat.reduceAdd, Nat.reduceSub, Nat.reduceLeDiff, Bool.false_eq_true, Bool.not_true, Bool.not_false, reduceIte, Nat.reduceEqDiff, d_int, d_str, d_bl, d_non, d_tup, d_ftp, d_lst, d_fls, d_dic, d_ty, d_locL, d_locD, add_int, sub_int, mul_int, mod_int, div_int, lt_int, le_int, gt_int, ge_int, int_int, len_lst, len_tup, len_fls, idx_lst, idx_tup, idx_dicS, idx_dicI, eFld, eMeth, sFldM, gFld, gSubM, eGet2, ePop2, eChain, i_at, eq_self, l_num, l_base, l_sp, l_held, l_words, p_sp, f_len5, l_m0, l_m1, l_m2, l_m3, l_m4, l_m5, l_m6, l_m7, l_m8, l_m9, m_h, m_w, m_i, m_seth, m_setw, m_seti, look_h, look_w, d_dV, dm_h, dm_w, put_w, put_h, drop_w, eq_any, eq_out, dicOf, locDic, toKey, v_STACK, v_GOES_ON, v_OFF_STACK, v_WILD, v_MOST_WORDS, v_RETURN, v_END, Nat.reduceLT, eqs, ine, atI2_0, atI2_1, atI3_0, atI3_1, atI3_2, atI4_0, atI4_1, atI4_2, atI4_3, atI1_0, decide_true, decide_false, decide_eq_false, gEqT, in_str, isS, strIn, Bool.or_false, Bool.false_or, Bool.true_or, Bool.or_true, Bool.and_true, Bool.true_and, Bool.and_false, Bool.false_and, List.all_cons, List.all_nil, nes, is_non, is_int, eUn, neg_int, gB, bTup, bMore, bVar, bNone, Option.bind_some, st_h, st_hA, gd_any, d_out, d_any, lcF_n, lcL, sLoopF_n, sLoop, eSrc, eLc, sFor, fuelOf, wipeE, bYes, Option.map_some, Option.map_none, Option.getD_some, Option.getD_none, tup_lst, tupF_lst, g0, g10, List.length_map]
          · simp (disch := first | omega | decide | rfl | simp only [List.length_map]) only [fnM, startE, finR, List.length_cons, List.length_nil, List.map_cons, List.map_nil, if_true, if_false, sSeq, sBind, sAsg, sRet, sRetN, sNil, sIf, sExpr, sPar, bindE, eOp, eVar, eC, eCallB, eCall, eCons, eNil, eTup, eLst, eIf, vAnd, vOr, vNot, bAnd, bOr, bNot, asB, liftO, gVar, onlyN, List.replicate, List.append_nil, List.cons_append, List.nil_append, List.getElem?_cons_zero, List.getElem?_cons_succ, List.set_cons_zero, List.set_cons_succ, Nat.reduceAdd, Nat.reduceSub, Nat.reduceLeDiff, Bool.false_eq_true, Bool.not_true, Bool.not_false, reduceIte, Nat.reduceEqDiff, d_int, d_str, d_bl, d_non, d_tup, d_ftp, d_lst, d_fls, d_dic, d_ty, d_locL, d_locD, add_int, sub_int, mul_int, mod_int, div_int, lt_int, le_int, gt_int, ge_int, int_int, len_lst, len_tup, len_fls, idx_lst, idx_tup, idx_dicS, idx_dicI, eFld, eMeth, sFldM, gFld, gSubM, eGet2, ePop2, eChain, i_at, eq_self, l_num, l_base, l_sp, l_held, l_words, p_sp, f_len5, l_m0, l_m1, l_m2, l_m3, l_m4, l_m5, l_m6, l_m7, l_m8, l_m9, m_h, m_w, m_i, m_seth, m_setw, m_seti, look_h, look_w, d_dV, dm_h, dm_w, put_w, put_h, drop_w, eq_any, eq_out, dicOf, locDic, toKey, v_STACK, v_GOES_ON, v_OFF_STACK, v_WILD, v_MOST_WORDS, v_RETURN, v_END, Nat.reduceLT, eqs, ine, atI2_0, atI2_1, atI3_0, atI3_1, atI3_2, atI4_0, atI4_1, atI4_2, atI4_3, atI1_0, decide_true, decide_false, decide_eq_false, gEqT, in_str, isS, strIn, Bool.or_false, Bool.false_or, Bool.true_or, Bool.or_true, Bool.and_true, Bool.true_and, Bool.and_false, Bool.false_and, List.all_cons, List.all_nil, nes, is_non, is_int, eUn, neg_int, gB, bTup, bMore, bVar, bNone, Option.bind_some, st_h, st_hA, gd_any, d_out, d_any, lcF_n, lcL, sLoopF_n, sLoop, eSrc, eLc, sFor, fuelOf, wipeE, bYes, Option.map_some, Option.map_none, Option.getD_some, Option.getD_none, tup_lst, tupF_lst, g3, g10, told_eq a hll, Mc.tell])]
        congr 1
        rw [List.filter_map, List.map_map, List.map_map]
        rfl
      cases c3 : decide ((code.length : Int) ∈ nxt i t.at_)
      · simp (disch := first | omega | decide | rfl | simp only [List.length_map]) only [fnM, startE, finR, List.length_cons, List.length_nil, List.map_cons, List.map_nil, if_true, if_false, sSeq, sBind, sAsg, sRet, sRetN, sNil, sIf, sExpr, sPar, bindE, eOp, eVar, eC, eCallB, eCall, eCons, eNil, eTup, eLst, eIf, vAnd, vOr, vNot, bAnd, bOr, bNot, asB, liftO, gVar, onlyN, List.replicate, List.append_nil, List.cons_append, List.nil_append, List.getElem?_cons_zero, List.getElem?_cons_succ, List.set_cons_zero, List.set_cons_succ, Nat.reduceAdd, Nat.reduceSub, Nat.reduceLeDiff, Bool.false_eq_true, Bool.not_true, Bool.not_false, reduceIte, Nat.reduceEqDiff, d_int, d_str, d_bl, d_non, d_tup, d_ftp, d_lst, d_fls, d_dic, d_ty, d_locL, d_locD, add_int, sub_int, mul_int, mod_int, div_int, lt_int, le_int, gt_int, ge_int, int_int, len_lst, len_tup, len_fls, idx_lst, idx_tup, idx_dicS, idx_dicI, eFld, eMeth, sFldM, gFld, gSubM, eGet2, ePop2, eChain, i_at, eq_self, l_num, l_base, l_sp, l_held, l_words, p_sp, f_len5, l_m0, l_m1, l_m2, l_m3, l_m4, l_m5, l_m6, l_m7, l_m8, l_m9, m_h, m_w, m_i, m_seth, m_setw, m_seti, look_h, look_w, d_dV, dm_h, dm_w, put_w, put_h, drop_w, eq_any, eq_out, dicOf, locDic, toKey, v_STACK, v_GOES_ON, v_OFF_STACK, v_WILD, v_MOST_WORDS, v_RETURN, v_END, Nat.reduceLT, eqs, ine, atI2_0, atI2_1, atI3_0, atI3_1, atI3_2, atI4_0, atI4_1, atI4_2, atI4_3, atI1_0, decide_true, decide_false, decide_eq_false, gEqT, in_str, isS, strIn, Bool.or_false, Bool.false_or, Bool.true_or, Bool.or_true, Bool.and_true, Bool.true_and, Bool.and_false, Bool.false_and, List.all_cons, List.all_nil, nes, is_non, is_int, eUn, neg_int, gB, bTup, bMore, bVar, bNone, Option.bind_some, st_h, st_hA, gd_any, d_out, d_any, lcF_n, lcL, sLoopF_n, sLoop, eSrc, eLc, sFor, fuelOf, wipeE, bYes, Option.map_some, Option.map_none, Option.getD_some, Option.getD_none, tup_lst, tupF_lst, f_q_successors, b_q_successors, dStop, dC, hc, hd, at0, hw, eMake, eDictZ, eDictN, notS, sqOf, v_REGISTERS, zip_h, merge_h, pairs_w, merge_w hn, newD, List.length_append, List.append_assoc, mkRes, and_self, hmk, c1, hdo', hnp, List.length_map, hk, in_ints, c3, hin _ c3.symm]
        rw [hlc _ rfl rfl (by simp)]
        simp (disch := first | omega | decide | rfl | simp only [List.length_map]) only [fnM, startE, finR, List.length_cons, List.length_nil, List.map_cons, List.map_nil, if_true, if_false, sSeq, sBind, sAsg, sRet, sRetN, sNil, sIf, sExpr, sPar, bindE, eOp, eVar, eC, eCallB, eCall, eCons, eNil, eTup, eLst, eIf, vAnd, vOr, vNot, bAnd, bOr, bNot, asB, liftO, gVar, onlyN, List.replicate, List.append_nil, List.cons_append, List.nil_append, List.getElem?_cons_zero, List.getElem?_cons_succ, List.set_cons_zero, List.set_cons_succ, Nat.reduceAdd, Nat.reduceSub, Nat.reduceLeDiff, Bool.false_eq_true, Bool.not_true, Bool.not_false, reduceIte, Nat.reduceEqDiff, d_int, d_str, d_bl, d_non, d_tup, d_ftp, d_lst, d_fls, d_dic, d_ty, d_locL, d_locD, add_int, sub_int, mul_int, mod_int, div_int, lt_int, le_int, gt_int, ge_int, int_int, len_lst, len_tup, len_fls, idx_lst, idx_tup, idx_dicS, idx_dicI, eFld, eMeth, sFldM, gFld, gSubM, eGet2, ePop2, eChain, i_at, eq_self, l_num, l_base, l_sp, l_held, l_words, p_sp, f_len5, l_m0, l_m1, l_m2, l_m3, l_m4, l_m5, l_m6, l_m7, l_m8, l_m9, m_h, m_w, m_i, m_seth, m_setw, m_seti, look_h, look_w, d_dV, dm_h, dm_w, put_w, put_h, drop_w, eq_any, eq_out, dicOf, locDic, toKey, v_STACK, v_GOES_ON, v_OFF_STACK, v_WILD, v_MOST_WORDS, v_RETURN, v_END, Nat.reduceLT, eqs, ine, atI2_0, atI2_1, atI3_0, atI3_1, atI3_2, atI4_0, atI4_1, atI4_2, atI4_3, atI1_0, decide_true, decide_false, decide_eq_false, gEqT, in_str, isS, strIn, Bool.or_false, Bool.false_or, Bool.true_or, Bool.or_true, Bool.and_true, Bool.true_and, Bool.and_false, Bool.false_and, List.all_cons, List.all_nil, nes, is_non, is_int, eUn, neg_int, gB, bTup, bMore, bVar, bNone, Option.bind_some, st_h, st_hA, gd_any, d_out, d_any, lcF_n, lcL, sLoopF_n, sLoop, eSrc, eLc, sFor, fuelOf, wipeE, bYes, Option.map_some, Option.map_none, Option.getD_some, Option.getD_none, tup_lst, tupF_lst]
      · simp (disch := first | omega | decide | rfl | simp only [List.length_map]) only [fnM, startE, finR, List.length_cons, List.length_nil, List.map_cons, List.map_nil, if_true, if_false, sSeq, sBind, sAsg, sRet, sRetN, sNil, sIf, sExpr, sPar, bindE, eOp, eVar, eC, eCallB, eCall, eCons, eNil, eTup, eLst, eIf, vAnd, vOr, vNot, bAnd, bOr, bNot, asB, liftO, gVar, onlyN, List.replicate, List.append_nil, List.cons_append, List.nil_append, List.getElem?_cons_zero, List.getElem?_cons_succ, List.set_cons_zero, List.set_cons_succ, Nat.reduceAdd, Nat.reduceSub, Nat.reduceLeDiff, Bool.false_eq_true, Bool.not_true, Bool.not_false, reduceIte, Nat.reduceEqDiff, d_int, d_str, d_bl, d_non, d_tup, d_ftp, d_lst, d_fls, d_dic, d_ty, d_locL, d_locD, add_int, sub_int, mul_int, mod_int, div_int, lt_int, le_int, gt_int, ge_int, int_int, len_lst, len_tup, len_fls, idx_lst, idx_tup, idx_dicS, idx_dicI, eFld, eMeth, sFldM, gFld, gSubM, eGet2, ePop2, eChain, i_at, eq_self, l_num, l_base, l_sp, l_held, l_words, p_sp, f_len5, l_m0, l_m1, l_m2, l_m3, l_m4, l_m5, l_m6, l_m7, l_m8, l_m9, m_h, m_w, m_i, m_seth, m_setw, m_seti, look_h, look_w, d_dV, dm_h, dm_w, put_w, put_h, drop_w, eq_any, eq_out, dicOf, locDic, toKey, v_STACK, v_GOES_ON, v_OFF_STACK, v_WILD, v_MOST_WORDS, v_RETURN, v_END, Nat.reduceLT, eqs, ine, atI2_0, atI2_1, atI3_0, atI3_1, atI3_2, atI4_0, atI4_1, atI4_2, atI4_3, atI1_0, decide_true, decide_false, decide_eq_false, gEqT, in_str, isS, strIn, Bool.or_false, Bool.false_or, Bool.true_or, Bool.or_true, Bool.and_true, Bool.true_and, Bool.and_false, Bool.false_and, List.all_cons, List.all_nil, nes, is_non, is_int, eUn, neg_int, gB, bTup, bMore, bVar, bNone, Option.bind_some, st_h, st_hA, gd_any, d_out, d_any, lcF_n, lcL, sLoopF_n, sLoop, eSrc, eLc, sFor, fuelOf, wipeE, bYes, Option.map_some, Option.map_none, Option.getD_some, Option.getD_none, tup_lst, tupF_lst, f_q_successors, b_q_successors, dStop, dC, hc, hd, at0, hw, eMake, eDictZ, eDictN, notS, sqOf, v_REGISTERS, zip_h, merge_h, pairs_w, merge_w hn, newD, List.length_append, List.append_assoc, mkRes, and_self, hmk, c1, hdo', hnp, List.length_map, hk, in_ints, c3, hin _ c3.symm]
        rw [hlc _ rfl rfl (by simp)]
        simp (disch := first | omega | decide | rfl | simp only [List.length_map]) only [fnM, startE, finR, List.length_cons, List.length_nil, List.map_cons, List.map_nil, if_true, if_false, sSeq, sBind, sAsg, sRet, sRetN, sNil, sIf, sExpr, sPar, bindE, eOp, eVar, eC, eCallB, eCall, eCons, eNil, eTup, eLst, eIf, vAnd, vOr, vNot, bAnd, bOr, bNot, asB, liftO, gVar, onlyN, List.replicate, List.append_nil, List.cons_append, List.nil_append, List.getElem?_cons_zero, List.getElem?_cons_succ, List.set_cons_zero, List.set_cons_succ, Nat.reduceAdd, Nat.reduceSub, Nat.reduceLeDiff, Bool.false_eq_true, Bool.not_true, Bool.not_false, reduceIte, Nat.reduceEqDiff, d_int, d_str, d_bl, d_non, d_tup, d_ftp, d_lst, d_fls, d_dic, d_ty, d_locL, d_locD, add_int, sub_int, mul_int, mod_int, div_int, lt_int, le_int, gt_int, ge_int, int_int, len_lst, len_tup, len_fls, idx_lst, idx_tup, idx_dicS, idx_dicI, eFld, eMeth, sFldM, gFld, gSubM, eGet2, ePop2, eChain, i_at, eq_self, l_num, l_base, l_sp, l_held, l_words, p_sp, f_len5, l_m0, l_m1, l_m2, l_m3, l_m4, l_m5, l_m6, l_m7, l_m8, l_m9, m_h, m_w, m_i, m_seth, m_setw, m_seti, look_h, look_w, d_dV, dm_h, dm_w, put_w, put_h, drop_w, eq_any, eq_out, dicOf, locDic, toKey, v_STACK, v_GOES_ON, v_OFF_STACK, v_WILD, v_MOST_WORDS, v_RETURN, v_END, Nat.reduceLT, eqs, ine, atI2_0, atI2_1, atI3_0, atI3_1, atI3_2, atI4_0, atI4_1, atI4_2, atI4_3, atI1_0, decide_true, decide_false, decide_eq_false, gEqT, in_str, isS, strIn, Bool.or_false, Bool.false_or, Bool.true_or, Bool.or_true, Bool.and_true, Bool.true_and, Bool.and_false, Bool.false_and, List.all_cons, List.all_nil, nes, is_non, is_int, eUn, neg_int, gB, bTup, bMore, bVar, bNone, Option.bind_some, st_h, st_hA, gd_any, d_out, d_any, lcF_n, lcL, sLoopF_n, sLoop, eSrc, eLc, sFor, fuelOf, wipeE, bYes, Option.map_some, Option.map_none, Option.getD_some, Option.getD_none, tup_lst, tupF_lst]
    · have hs : sucI code.length t i = ([], [(t.m.exec i).1]) := by simp only [sucI, c, c1, Bool.false_eq_true, if_false]
      rw [hs]
      simp (disch := first | omega | decide | rfl | simp only [List.length_map]) only [fnM, startE, finR, List.length_cons, List.length_nil, List.map_cons, List.map_nil, if_true, if_false, sSeq, sBind, sAsg, sRet, sRetN, sNil, sIf, sExpr, sPar, bindE, eOp, eVar, eC, eCallB, eCall, eCons, eNil, eTup, eLst, eIf, vAnd, vOr, vNot, bAnd, bOr, bNot, asB, liftO, gVar, onlyN, List.replicate, List.append_nil, List.cons_append, List.nil_append, List.getElem?_cons_zero, List.getElem?_cons_succ, List.set_cons_zero, List.set_cons_succ, Nat.reduceAdd, Nat.reduceSub, Nat.reduceLeDiff, Bool.false_eq_true, Bool.not_true, Bool.not_false, reduceIte, Nat.reduceEqDiff, d_int, d_str, d_bl, d_non, d_tup, d_ftp, d_lst, d_fls, d_dic, d_ty, d_locL, d_locD, add_int, sub_int, mul_int, mod_int, div_int, lt_int, le_int, gt_int, ge_int, int_int, len_lst, len_tup, len_fls, idx_lst, idx_tup, idx_dicS, idx_dicI, eFld, eMeth, sFldM, gFld, gSubM, eGet2, ePop2, eChain, i_at, eq_self, l_num, l_base, l_sp, l_held, l_words, p_sp, f_len5, l_m0, l_m1, l_m2, l_m3, l_m4, l_m5, l_m6, l_m7, l_m8, l_m9, m_h, m_w, m_i, m_seth, m_setw, m_seti, look_h, look_w, d_dV, dm_h, dm_w, put_w, put_h, drop_w, eq_any, eq_out, dicOf, locDic, toKey, v_STACK, v_GOES_ON, v_OFF_STACK, v_WILD, v_MOST_WORDS, v_RETURN, v_END, Nat.reduceLT, eqs, ine, atI2_0, atI2_1, atI3_0, atI3_1, atI3_2, atI4_0, atI4_1, atI4_2, atI4_3, atI1_0, decide_true, decide_false, decide_eq_false, gEqT, in_str, isS, strIn, Bool.or_false, Bool.false_or, Bool.true_or, Bool.or_true, Bool.and_true, Bool.true_and, Bool.and_false, Bool.false_and, List.all_cons, List.all_nil, nes, is_non, is_int, eUn, neg_int, gB, bTup, bMore, bVar, bNone, Option.bind_some, st_h, st_hA, gd_any, d_out, d_any, lcF_n, lcL, sLoopF_n, sLoop, eSrc, eLc, sFor, fuelOf, wipeE, bYes, Option.map_some, Option.map_none, Option.getD_some, Option.getD_none, tup_lst, tupF_lst, f_q_successors, b_q_successors, dStop, dC, hc, hd, at0, hw, eMake, eDictZ, eDictN, notS, sqOf, v_REGISTERS, zip_h, merge_h, pairs_w, merge_w hn, newD, List.length_append, List.append_assoc, mkRes, and_self, hmk, c1, hdo', hnp]
end
end U
set_option Elab.async false
set_option linter.all false
set_option maxRecDepth 100000
set_option maxHeartbeats 4000000
namespace U
open PySem Sh L2
/-! ### what the words keep -/
theorem keys_tell (w : Ws) : keysW (tellW w) = sortI (keysW w) := by
  simp only [keysW, tellW, List.map_map]
  exact List.map_id _
theorem nd_tell {w : Ws} (h : NdW w) : NdW (tellW w) := by
  unfold NdW
  rw [keys_tell]
  exact (sortI_perm _).symm.nodup h
theorem len_tell (w : Ws) : (tellW w).length = w.length := by
  simp [tellW, sortI_len, keysW]
theorem nd_filter {w : Ws} {p : Int × Vl → Bool} (h : NdW w) : NdW (w.filter p) := h.sublist (List.filter_sublist.map _)
theorem nd_set {w : Ws} {a : Int} {v : Vl} (h : NdW w) : NdW (setW w a v) := by
  unfold setW
  split
  · exact nd_filter h
  · unfold Ws.put
    split
    · have : keysW (w.map fun p => if p.1 = a then (p.1, v) else p) = keysW w := by
        simp only [keysW, List.map_map]
        refine List.map_congr_left fun p _ => ?_
        simp only [Function.comp_def]
        split <;> rfl
      unfold NdW
      rw [this]; exact h
    · rename_i c
      have hn : a ∉ keysW w := by
        intro z
        obtain ⟨p, hp, e⟩ := List.mem_map.mp z
        exact c (List.any_eq_true.mpr ⟨p, hp, by simp [e]⟩)
      unfold NdW keysW at *
      rw [List.map_append, List.map_cons, List.map_nil]
      exact List.nodup_append.mpr ⟨h, by simp, fun x hx y hy z => hn (by simp at hy; rw [← hy, ← z]; exact hx)⟩
theorem nd_exec (m : Mc) (i : Ins) (h : NdW m.w) : NdW (m.exec i).2.w := by
  have h1 : ∀ a, (m.go a).2.w = m.w := fun a => by unfold Mc.go; split <;> rfl
  cases i <;> simp only [Mc.exec]
  case push g => split <;> first | exact nd_set h | exact h
  case pop g => split <;> exact h
  case grow n => rw [h1]; exact h
  case shrink n => rw [h1]; exact h
  case setsp g n =>
    cases m.adr (.rg g) with
    | none => exact h
    | some a => simp only; rw [h1]; exact h
  case store b n g =>
    cases m.adr b with
    | none => exact h
    | some a => simp only; split <;> first | exact nd_set h | exact h
  case load g b n =>
    cases m.adr b with
    | none => exact h
    | some a => simp only; split <;> exact h
  case call x => exact nd_filter h
  all_goals exact h
/-- an instruction of a code of n instructions -/
def okName (x : Str) : Bool := decide (1 ≤ x.length) && (decide (x.length ≤ 8) && x.cps.toList.all fun c => decide (97 ≤ c ∧ c ≤ 122))
def okIns (n : Int) : Ins → Bool
  | .grow k => decide (1 ≤ k ∧ k ≤ 64)
  | .shrink k => decide (1 ≤ k ∧ k ≤ 64)
  | .point _ k => decide (-64 ≤ k ∧ k ≤ 64)
  | .setsp _ k => decide (-64 ≤ k ∧ k ≤ 64)
  | .store _ k _ => decide (-64 ≤ k ∧ k ≤ 64)
  | .load _ _ k => decide (-64 ≤ k ∧ k ≤ 64)
  | .call x => okName x
  | .jump j => decide (0 ≤ j ∧ j < n)
  | .branch j => decide (0 ≤ j ∧ j < n)
  | _ => true
def okV : Vl → Bool
  | .wrd n a => decide (n = 0 ∧ -128 ≤ a ∧ a ≤ 64)
  | _ => true
def okW (w : Ws) : Prop := ∀ p ∈ w, -64 ≤ p.1 ∧ p.1 ≤ 0 ∧ okV p.2 = true
/-- a machine, a stop as the runs make them -/
structure GoodM (m : Mc) : Prop where
  num : m.num = 0
  base : m.base = 0
  sp0 : -64 ≤ m.sp
  sp1 : m.sp ≤ 0
  hh : ∀ g, okV (m.h.get g) = true
  nd : NdW m.w
  ks : okW m.w
structure GoodS (t : Stp) : Prop where
  at0 : 0 ≤ t.at_
  m : GoodM t.m
theorem get_set (h : Hd) (g g' : Rg) (v : Vl) : (h.set g v).get g' = if g' = g then v else h.get g' := by cases g <;> cases g' <;> rfl
theorem okH_set {h : Hd} {g : Rg} {v : Vl} (hh : ∀ g, okV (h.get g) = true) (hv : okV v = true) : ∀ g', okV ((h.set g v).get g') = true := by
  intro g'
  rw [get_set]
  split
  · exact hv
  · exact hh g'
theorem okW_get {w : Ws} {a : Int} (h : okW w) : okV ((Ws.get w a).getD .any) = true := by
  unfold Ws.get
  cases q : w.find? fun p => decide (p.1 = a) with
  | none => rfl
  | some p => exact (h p (List.mem_of_find?_eq_some q)).2.2
theorem okW_set {w : Ws} {a : Int} {v : Vl} (h : okW w) (h0 : -64 ≤ a) (h1 : a ≤ 0) (hv : okV v = true) : okW (setW w a v) := by
  unfold setW
  split
  · exact fun p hp => h p ((List.mem_filter.mp hp).1)
  · unfold Ws.put
    split
    · intro p hp
      obtain ⟨q, hq, e⟩ := List.mem_map.mp hp
      have := h q hq
      split at e
      · subst e; exact ⟨this.1, this.2.1, hv⟩
      · subst e; exact this
    · intro p hp
      rcases List.mem_append.mp hp with z | z
      · exact h p z
      · simp at z; subst z; exact ⟨h0, h1, hv⟩
theorem on_0 {a : Int} (h : on 0 a = true) : -64 ≤ a ∧ a ≤ 0 := by
  simp only [on, Bool.and_eq_true, decide_eq_true_eq] at h
  omega
theorem good_go {m : Mc} (g : GoodM m) (a : Int) : GoodM (m.go a).2 := by
  unfold Mc.go
  split
  · rename_i c
    rw [g.base] at c
    have := on_0 c
    exact ⟨g.num, g.base, this.1, this.2, g.hh, g.nd, g.ks⟩
  · exact g
theorem good_exec {m : Mc} {i : Ins} {n : Int} (g : GoodM m) (h : okIns n i = true) : GoodM (m.exec i).2 := by
  have b := g.base
  cases i <;> simp only [Mc.exec]
  case push r =>
    split
    · rename_i c
      rw [b] at c
      have := on_0 c
      exact ⟨g.num, b, this.1, this.2, g.hh, nd_set g.nd, okW_set g.ks this.1 this.2 (g.hh r)⟩
    · exact g
  case pop r =>
    split
    · rename_i c
      rw [b] at c
      have := on_0 c
      exact ⟨g.num, b, this.1, this.2, okH_set g.hh (okW_get g.ks), g.nd, g.ks⟩
    · exact g
  case grow k => exact good_go g _
  case shrink k => exact good_go g _
  case setsp r k =>
    cases m.adr (.rg r) with
    | none => exact g
    | some a => exact good_go g _
  case store r k x =>
    cases m.adr r with
    | none => exact g
    | some a =>
      simp only
      split
      · rename_i c
        rw [b] at c
        have := on_0 c
        exact ⟨g.num, b, g.sp0, g.sp1, g.hh, nd_set g.nd, okW_set g.ks this.1 this.2 (g.hh x)⟩
      · exact g
  case load x r k =>
    cases m.adr r with
    | none => exact g
    | some a =>
      simp only
      split
      · exact ⟨g.num, b, g.sp0, g.sp1, okH_set g.hh (okW_get g.ks), g.nd, g.ks⟩
      · exact g
  case move x y => exact ⟨g.num, b, g.sp0, g.sp1, okH_set g.hh (g.hh y), g.nd, g.ks⟩
  case point x k =>
    have h' := of_decide_eq_true h
    refine ⟨g.num, b, g.sp0, g.sp1, okH_set g.hh ?_, g.nd, g.ks⟩
    have := g.sp0; have := g.sp1; have := g.num
    simp only [okV, decide_eq_true_eq]
    omega
  case work x => exact ⟨g.num, b, g.sp0, g.sp1, okH_set g.hh rfl, g.nd, g.ks⟩
  case call x => exact ⟨g.num, b, g.sp0, g.sp1, okH_set (okH_set g.hh rfl) rfl, nd_filter g.nd, fun p hp => g.ks p ((List.mem_filter.mp hp).1)⟩
  all_goals exact g
theorem okW_tell {w : Ws} (h : okW w) : okW (tellW w) := by
  intro p hp
  obtain ⟨a, ha, e⟩ := List.mem_map.mp hp
  subst e
  obtain ⟨q, hq, rfl⟩ := List.mem_map.mp (sortI_mem.mp ha)
  exact ⟨(h q hq).1, (h q hq).2.1, okW_get h⟩
theorem nxt_pos {n : Int} {i : Ins} {a : Int} (h : okIns n i = true) (h0 : 0 ≤ a) : ∀ b ∈ nxt i a, 0 ≤ b := by
  intro b hb
  cases i with
  | jump j => simp only [nxt, List.mem_singleton] at hb; rw [hb]; exact (of_decide_eq_true h).1
  | branch j =>
    simp only [nxt] at hb
    have := (onceI_mem _).mp (sortI_mem.mp hb)
    simp only [List.mem_cons, List.not_mem_nil, or_false] at this
    rcases this with e | e
    · rw [e]; exact (of_decide_eq_true h).1
    · rw [e]; omega
  | _ => simp only [nxt, List.mem_singleton] at hb; rw [hb]; omega
theorem suc_good {n : Int} {t : Stp} {i : Ins} (g : GoodS t) (h : okIns n i = true) : ∀ u ∈ (sucI n t i).1, GoodS u ∧ u.at_ < n := by
  intro u hu
  unfold sucI at hu
  split at hu
  · cases hu
  · split at hu
    · obtain ⟨a, ha, rfl⟩ := List.mem_map.mp hu
      obtain ⟨ha1, ha2⟩ := List.mem_filter.mp ha
      have ge := good_exec g.m h
      exact ⟨⟨nxt_pos h g.at0 a ha1, ⟨rfl, rfl, ge.sp0, ge.sp1, ge.hh, nd_tell ge.nd, okW_tell ge.ks⟩⟩, of_decide_eq_true ha2⟩
    · cases hu
theorem nd_bound : ∀ (n : Nat) (lo : Int) (l : List Int), l.Nodup → (∀ a ∈ l, lo ≤ a ∧ a < lo + n) → l.length ≤ n
  | 0, lo, l, _, h => by
    cases l with
    | nil => exact Nat.le_refl _
    | cons a r => have := h a List.mem_cons_self; omega
  | n + 1, lo, l, hn, h => by
    by_cases c : lo ∈ l
    · have e := List.length_erase_of_mem c
      have ih := nd_bound n (lo + 1) (l.erase lo) (hn.erase _) fun a ha => by
        have h1 := h a (List.mem_of_mem_erase ha)
        have h2 : a ≠ lo := fun z => by
          rw [z] at ha
          exact (List.Nodup.not_mem_erase hn) ha
        omega
      have : 0 < l.length := List.length_pos_of_mem c
      omega
    · have ih := nd_bound n (lo + 1) l hn fun a ha => by
        have h1 := h a ha
        have h2 : a ≠ lo := fun z => c (z ▸ ha)
        omega
      omega
theorem GoodM.len {m : Mc} (g : GoodM m) : m.w.length ≤ 65 := by
  have := nd_bound 65 (-64) (keysW m.w) g.nd fun a ha => by
    obtain ⟨p, hp, rfl⟩ := List.mem_map.mp ha
    have := g.ks p hp
    omega
  simpa [keysW] using this
theorem good0 : GoodS st0 := ⟨by decide, ⟨rfl, rfl, by decide, by decide, by intro g; cases g <;> rfl, by unfold NdW; decide, by intro p hp; cases hp with | head => exact ⟨by decide, by decide, rfl⟩ | tail _ z => cases z⟩⟩
/-! ### along a path -/
def runP (code : List Ins) : List Int → Stp → Option Stp
  | [], t => some t
  | a :: r, t => match code[t.at_.toNat]? with
    | none => none
    | some i => match (sucI code.length t i).1.find? fun u => decide (u.at_ = a) with
      | none => none
      | some u => runP code r u
/-! ### as data -/
def pV : Vl → PyData
  | .fst g => .tuple [.str "first", .str g.n]
  | .wrd n a => .tuple [.str "word", .int n, .int a]
  | .any => .tuple [.str "any"]
  | .bck => .tuple [.str "back", .str "", .int 0]
theorem toPy_V (v : Vl) : toPy (dV v) = some (pV v) := by cases v <;> rfl
def pP (p : Int × Vl) : PyData := .tuple [.int p.1, pV p.2]
theorem toPy_P (p : Int × Vl) : toPy (dP p) = some (pP p) := by
  simp only [dP, toPy, toPys, toPy_V]; rfl
theorem toPys_map {α : Type} {f : α → D} {g : α → PyData} (h : ∀ x, toPy (f x) = some (g x)) : ∀ l : List α, toPys (l.map f) = some (l.map g)
  | [] => rfl
  | x :: r => by simp only [List.map_cons, toPys, h, toPys_map h r]
def pS (t : Stp) : PyData := .tuple [.int t.at_, .int t.sp, .tuple [pV t.h.p, pV t.h.q, pV t.h.r, pV t.h.s, pV t.h.x, pV t.h.y], .tuple (t.w.map pP)]
theorem toPy_S (t : Stp) : toPy (dStop t) = some (pS t) := by
  simp only [dStop, toPy, toPys, Hd.l, toPy_V, toPys_map toPy_P, Option.map_some]
  rfl
end U
set_option Elab.async false
set_option linter.all false
set_option maxRecDepth 100000
set_option maxHeartbeats 4000000
namespace Sh
open PySem L2
/-! ### data with small numbers can be written -/
mutual
def smD : PyData → Bool
  | .none | .bool _ => true
  | .int i => decide (-1000000000 < i ∧ i < 1000000000)
  | .str x => PyData.strOk x
  | .list xs | .tuple xs => smDs xs
  | .dict _ => false
def smDs : List PyData → Bool
  | [] => true
  | x :: xs => smD x && smDs xs
end
theorem sm_log {i : Int} (h : -1000000000 < i ∧ i < 1000000000) : i.natAbs.log2 < 30 := by
  by_cases c : i.natAbs = 0
  · rw [c]; decide
  · exact (Nat.log2_lt c).mpr (by omega)
theorem int_short {i : Int} (h : -1000000000 < i ∧ i < 1000000000) : (PyData.shown (.int i)).length ≤ 13 := PyData.shown_int_le (by omega)
mutual
theorem sm_show : ∀ p : PyData, smD p = true → p.showable = true ∧ p.canLay0 = true ∧ p.intsShort 13 = true ∧ p.hasDict = false
  | .none, _ => ⟨rfl, rfl, rfl, rfl⟩
  | .bool _, _ => ⟨rfl, rfl, rfl, rfl⟩
  | .int i, h => ⟨by
      have := sm_log (of_decide_eq_true h)
      simp only [PyData.showable, decide_eq_true_eq]; omega, rfl, by simp only [PyData.intsShort, decide_eq_true_eq]; exact int_short (of_decide_eq_true h), rfl⟩
  | .str x, h => ⟨rfl, h, rfl, rfl⟩
  | .list xs, h => by
    obtain ⟨h1, h2, h3, h4⟩ := sms_show xs h
    exact ⟨by simpa only [PyData.showable] using h1, by simpa only [PyData.canLay0] using h2, by simpa only [PyData.intsShort] using h3, by simpa only [PyData.hasDict] using h4⟩
  | .tuple xs, h => by
    obtain ⟨h1, h2, h3, h4⟩ := sms_show xs h
    exact ⟨by simpa only [PyData.showable] using h1, by simpa only [PyData.canLay0] using h2, by simpa only [PyData.intsShort] using h3, by simpa only [PyData.hasDict] using h4⟩
  | .dict _, h => by cases h
theorem sms_show : ∀ p : List PyData, smDs p = true → PyData.showableAll p = true ∧ PyData.canLayAll0 p = true ∧ PyData.intsShortAll 13 p = true ∧ PyData.hasDictAll p = false
  | [], _ => ⟨rfl, rfl, rfl, rfl⟩
  | x :: xs, h => by
    simp only [smDs, Bool.and_eq_true] at h
    obtain ⟨a1, a2, a3, a4⟩ := sm_show x h.1
    obtain ⟨b1, b2, b3, b4⟩ := sms_show xs h.2
    exact ⟨by simp only [PyData.showableAll, a1, b1, Bool.and_self], by simp only [PyData.canLayAll0, a2, b2, Bool.and_self], by simp only [PyData.intsShortAll, a3, b3, Bool.and_self], by simp only [PyData.hasDictAll, a4, b4, Bool.or_self]⟩
end
theorem fit_of {p : PyData} (h : smD p = true) (hd : p.depth ≤ 40) (hw : p.weight ≤ 2 ^ 20) : fitR p = true := by
  obtain ⟨h1, h2, h3, h4⟩ := sm_show p h
  simp only [fitR, h1, h3, h4, PyData.layable0, h2, Bool.true_and, Bool.not_false, Bool.and_eq_true, decide_eq_true_eq]
  omega
theorem shaped_of {p : PyData} (h : smD p = true) (hd : p.depth ≤ 64) : SeqAt.shaped p = true := by
  obtain ⟨h1, h2, h3, h4⟩ := sm_show p h
  simp only [SeqAt.shaped, h2, Bool.true_and, decide_eq_true_eq]
  exact hd
theorem smDs_map {α : Type} {f : α → PyData} : ∀ {l : List α}, (∀ x ∈ l, smD (f x) = true) → smDs (l.map f) = true
  | [], _ => rfl
  | x :: r, h => by
    simp only [List.map_cons, smDs, h x List.mem_cons_self, smDs_map (l := r) fun y hy => h y (List.mem_cons_of_mem _ hy), Bool.and_self]
theorem depth_map {α : Type} {f : α → PyData} {n : Nat} : ∀ {l : List α}, (∀ x ∈ l, (f x).depth ≤ n) → PyData.depthAll (l.map f) ≤ n
  | [], _ => Nat.zero_le _
  | x :: r, h => by
    simp only [List.map_cons, PyData.depthAll]
    exact Nat.max_le.mpr ⟨h x List.mem_cons_self, depth_map (l := r) fun y hy => h y (List.mem_cons_of_mem _ hy)⟩
theorem weight_map {α : Type} {f : α → PyData} {n : Nat} : ∀ {l : List α}, (∀ x ∈ l, (f x).weight ≤ n) → PyData.weightAll (l.map f) ≤ l.length * (n + 1)
  | [], _ => Nat.zero_le _
  | x :: r, h => by
    simp only [List.map_cons, PyData.weightAll, List.length_cons]
    have h1 := h x List.mem_cons_self
    have h2 := weight_map (l := r) (n := n) fun y hy => h y (List.mem_cons_of_mem _ hy)
    rw [Nat.add_mul]
    omega
theorem weight_int {i : Int} (h : -1000000000 < i ∧ i < 1000000000) : (PyData.int i).weight ≤ 30 := by
  simp only [PyData.weight]
  split
  · omega
  · have := sm_log h; omega
theorem depth_int {i : Int} : (PyData.int i).depth = 0 := rfl
theorem depth_str {x : Str} : (PyData.str x).depth = 0 := rfl
theorem eq_nilL {xs : List D} {ps : List PyData} (h : toPys xs = some ps) (hs : SeqAt.shaped (.list ps) = true) : gEq (.lst xs) (.lst []) = some (.bl xs.isEmpty) := by
  have h1 : toPy (.lst xs) = some (.list ps) := by simp [toPy, h]
  have h2 : toPy (.lst []) = some (.list []) := rfl
  have h3 : SeqAt.shaped (.list []) = true := by rfl
  show (match toPy (.lst xs), toPy (.lst []) with
    | some p, some q => if SeqAt.shaped p = true ∧ SeqAt.shaped q = true then some (D.bl (false ^^ PyData.eqv p q)) else none
    | _, _ => none) = _
  rw [h1, h2]
  simp only [hs, h3, and_self, if_true]
  cases xs with
  | nil => cases h; rfl
  | cons x r =>
    simp only [toPys] at h
    split at h
    · cases h; rfl
    · cases h
theorem repr_of {d : D} {p : PyData} (h : toPy d = some p) (hf : fitR p = true) : gRepr [d] = some (.str p.shown) := by
  simp only [gRepr, h, hf, if_true]
end Sh
set_option Elab.async false
set_option linter.all false
set_option maxRecDepth 100000
set_option maxHeartbeats 4000000
namespace U
open PySem Sh L2
/-! ### a code is one -/
section
variable {S : Sto} {n a lo hi : Int}
theorem isi_tt {xs : List D} : gIsi [.tup xs, .ty "tuple"] = some (.bl true) := rfl
theorem isi_ss {x : Str} : gIsi [.str x, .ty "str"] = some (.bl true) := rfl
theorem isi_ii {i : Int} : gIsi [.int i, .ty "int"] = some (.bl true) := rfl
theorem isi_ib {i : Int} : gIsi [.int i, .ty "bool"] = some (.bl false) := rfl
theorem is_integer_eq : f_q_is_integer [.int a, .int lo, .int hi] S = .ok (.bl (decide (lo ≤ a) && decide (a ≤ hi))) S := by
  by_cases c : lo ≤ a
  · simp (disch := first | omega | decide | rfl | simp only [List.length_map]) only [fnM, startE, finR, List.length_cons, List.length_nil, List.map_cons, List.map_nil, if_true, if_false, sSeq, sBind, sAsg, sRet, sRetN, sNil, sIf, sExpr, sPar, bindE, eOp, eVar, eC, eCallB, eCall, eCons, eNil, eTup, eLst, eIf, vAnd, vOr, vNot, bAnd, bOr, bNot, asB, liftO, gVar, onlyN, List.replicate, List.append_nil, List.cons_append, List.nil_append, List.getElem?_cons_zero, List.getElem?_cons_succ, List.set_cons_zero, List.set_cons_succ, Nat.reduceAdd, Nat.reduceSub, Nat.reduceLeDiff, Bool.false_eq_true, Bool.not_true, Bool.not_false, reduceIte, Nat.reduceEqDiff, d_int, d_str, d_bl, d_non, d_tup, d_ftp, d_lst, d_fls, d_dic, d_ty, d_locL, d_locD, add_int, sub_int, mul_int, mod_int, div_int, lt_int, le_int, gt_int, ge_int, int_int, len_lst, len_tup, len_fls, idx_lst, idx_tup, idx_dicS, idx_dicI, eFld, eMeth, sFldM, gFld, gSubM, eGet2, ePop2, eChain, i_at, eq_self, l_num, l_base, l_sp, l_held, l_words, p_sp, f_len5, l_m0, l_m1, l_m2, l_m3, l_m4, l_m5, l_m6, l_m7, l_m8, l_m9, m_h, m_w, m_i, m_seth, m_setw, m_seti, look_h, look_w, d_dV, dm_h, dm_w, put_w, put_h, drop_w, eq_any, eq_out, dicOf, locDic, toKey, v_STACK, v_GOES_ON, v_OFF_STACK, v_WILD, v_MOST_WORDS, v_RETURN, v_END, Nat.reduceLT, eqs, ine, atI2_0, atI2_1, atI3_0, atI3_1, atI3_2, atI4_0, atI4_1, atI4_2, atI4_3, atI1_0, decide_true, decide_false, decide_eq_false, gEqT, in_str, isS, strIn, Bool.or_false, Bool.false_or, Bool.true_or, Bool.or_true, Bool.and_true, Bool.true_and, Bool.and_false, Bool.false_and, List.all_cons, List.all_nil, nes, is_non, is_int, eUn, neg_int, gB, bTup, bMore, bVar, bNone, Option.bind_some, st_h, st_hA, gd_any, d_out, d_any, lcF_n, lcL, sLoopF_n, sLoop, eSrc, eLc, sFor, fuelOf, wipeE, bYes, Option.map_some, Option.map_none, Option.getD_some, Option.getD_none, tup_lst, tupF_lst, f_q_is_integer, b_q_is_integer, isi_ii, isi_ib, c]
  · simp (disch := first | omega | decide | rfl | simp only [List.length_map]) only [fnM, startE, finR, List.length_cons, List.length_nil, List.map_cons, List.map_nil, if_true, if_false, sSeq, sBind, sAsg, sRet, sRetN, sNil, sIf, sExpr, sPar, bindE, eOp, eVar, eC, eCallB, eCall, eCons, eNil, eTup, eLst, eIf, vAnd, vOr, vNot, bAnd, bOr, bNot, asB, liftO, gVar, onlyN, List.replicate, List.append_nil, List.cons_append, List.nil_append, List.getElem?_cons_zero, List.getElem?_cons_succ, List.set_cons_zero, List.set_cons_succ, Nat.reduceAdd, Nat.reduceSub, Nat.reduceLeDiff, Bool.false_eq_true, Bool.not_true, Bool.not_false, reduceIte, Nat.reduceEqDiff, d_int, d_str, d_bl, d_non, d_tup, d_ftp, d_lst, d_fls, d_dic, d_ty, d_locL, d_locD, add_int, sub_int, mul_int, mod_int, div_int, lt_int, le_int, gt_int, ge_int, int_int, len_lst, len_tup, len_fls, idx_lst, idx_tup, idx_dicS, idx_dicI, eFld, eMeth, sFldM, gFld, gSubM, eGet2, ePop2, eChain, i_at, eq_self, l_num, l_base, l_sp, l_held, l_words, p_sp, f_len5, l_m0, l_m1, l_m2, l_m3, l_m4, l_m5, l_m6, l_m7, l_m8, l_m9, m_h, m_w, m_i, m_seth, m_setw, m_seti, look_h, look_w, d_dV, dm_h, dm_w, put_w, put_h, drop_w, eq_any, eq_out, dicOf, locDic, toKey, v_STACK, v_GOES_ON, v_OFF_STACK, v_WILD, v_MOST_WORDS, v_RETURN, v_END, Nat.reduceLT, eqs, ine, atI2_0, atI2_1, atI3_0, atI3_1, atI3_2, atI4_0, atI4_1, atI4_2, atI4_3, atI1_0, decide_true, decide_false, decide_eq_false, gEqT, in_str, isS, strIn, Bool.or_false, Bool.false_or, Bool.true_or, Bool.or_true, Bool.and_true, Bool.true_and, Bool.and_false, Bool.false_and, List.all_cons, List.all_nil, nes, is_non, is_int, eUn, neg_int, gB, bTup, bMore, bVar, bNone, Option.bind_some, st_h, st_hA, gd_any, d_out, d_any, lcF_n, lcL, sLoopF_n, sLoop, eSrc, eLc, sFor, fuelOf, wipeE, bYes, Option.map_some, Option.map_none, Option.getD_some, Option.getD_none, tup_lst, tupF_lst, f_q_is_integer, b_q_is_integer, isi_ii, isi_ib, c]
theorem fits_r (g : Rg) (d : D) : f_q_part_fits [.str g.n, .str "r", d] S = .ok (.bl true) S := by cases g <;> rfl
theorem fits_b (b : Bs) (d : D) : f_q_part_fits [.str b.n, .str "b", d] S = .ok (.bl true) S := by
  cases b with
  | sp => rfl
  | rg g => cases g <;> rfl
theorem fits_g (h : 1 ≤ a ∧ a ≤ 64) (d : D) : f_q_part_fits [.int a, .str "g", d] S = .ok (.bl true) S := by
  have h1 : decide (1 ≤ a) = true := decide_eq_true h.1
  have h2 : decide (a ≤ 64) = true := decide_eq_true h.2
  simp (disch := first | omega | decide | rfl | simp only [List.length_map]) only [fnM, startE, finR, List.length_cons, List.length_nil, List.map_cons, List.map_nil, if_true, if_false, sSeq, sBind, sAsg, sRet, sRetN, sNil, sIf, sExpr, sPar, bindE, eOp, eVar, eC, eCallB, eCall, eCons, eNil, eTup, eLst, eIf, vAnd, vOr, vNot, bAnd, bOr, bNot, asB, liftO, gVar, onlyN, List.replicate, List.append_nil, List.cons_append, List.nil_append, List.getElem?_cons_zero, List.getElem?_cons_succ, List.set_cons_zero, List.set_cons_succ, Nat.reduceAdd, Nat.reduceSub, Nat.reduceLeDiff, Bool.false_eq_true, Bool.not_true, Bool.not_false, reduceIte, Nat.reduceEqDiff, d_int, d_str, d_bl, d_non, d_tup, d_ftp, d_lst, d_fls, d_dic, d_ty, d_locL, d_locD, add_int, sub_int, mul_int, mod_int, div_int, lt_int, le_int, gt_int, ge_int, int_int, len_lst, len_tup, len_fls, idx_lst, idx_tup, idx_dicS, idx_dicI, eFld, eMeth, sFldM, gFld, gSubM, eGet2, ePop2, eChain, i_at, eq_self, l_num, l_base, l_sp, l_held, l_words, p_sp, f_len5, l_m0, l_m1, l_m2, l_m3, l_m4, l_m5, l_m6, l_m7, l_m8, l_m9, m_h, m_w, m_i, m_seth, m_setw, m_seti, look_h, look_w, d_dV, dm_h, dm_w, put_w, put_h, drop_w, eq_any, eq_out, dicOf, locDic, toKey, v_STACK, v_GOES_ON, v_OFF_STACK, v_WILD, v_MOST_WORDS, v_RETURN, v_END, Nat.reduceLT, eqs, ine, atI2_0, atI2_1, atI3_0, atI3_1, atI3_2, atI4_0, atI4_1, atI4_2, atI4_3, atI1_0, decide_true, decide_false, decide_eq_false, gEqT, in_str, isS, strIn, Bool.or_false, Bool.false_or, Bool.true_or, Bool.or_true, Bool.and_true, Bool.true_and, Bool.and_false, Bool.false_and, List.all_cons, List.all_nil, nes, is_non, is_int, eUn, neg_int, gB, bTup, bMore, bVar, bNone, Option.bind_some, st_h, st_hA, gd_any, d_out, d_any, lcF_n, lcL, sLoopF_n, sLoop, eSrc, eLc, sFor, fuelOf, wipeE, bYes, Option.map_some, Option.map_none, Option.getD_some, Option.getD_none, tup_lst, tupF_lst, f_q_part_fits, b_q_part_fits, is_integer_eq, h1, h2]
theorem fits_n (h : -64 ≤ a ∧ a ≤ 64) (d : D) : f_q_part_fits [.int a, .str "n", d] S = .ok (.bl true) S := by
  have h1 : decide (-64 ≤ a) = true := decide_eq_true h.1
  have h2 : decide (a ≤ 64) = true := decide_eq_true h.2
  simp (disch := first | omega | decide | rfl | simp only [List.length_map]) only [fnM, startE, finR, List.length_cons, List.length_nil, List.map_cons, List.map_nil, if_true, if_false, sSeq, sBind, sAsg, sRet, sRetN, sNil, sIf, sExpr, sPar, bindE, eOp, eVar, eC, eCallB, eCall, eCons, eNil, eTup, eLst, eIf, vAnd, vOr, vNot, bAnd, bOr, bNot, asB, liftO, gVar, onlyN, List.replicate, List.append_nil, List.cons_append, List.nil_append, List.getElem?_cons_zero, List.getElem?_cons_succ, List.set_cons_zero, List.set_cons_succ, Nat.reduceAdd, Nat.reduceSub, Nat.reduceLeDiff, Bool.false_eq_true, Bool.not_true, Bool.not_false, reduceIte, Nat.reduceEqDiff, d_int, d_str, d_bl, d_non, d_tup, d_ftp, d_lst, d_fls, d_dic, d_ty, d_locL, d_locD, add_int, sub_int, mul_int, mod_int, div_int, lt_int, le_int, gt_int, ge_int, int_int, len_lst, len_tup, len_fls, idx_lst, idx_tup, idx_dicS, idx_dicI, eFld, eMeth, sFldM, gFld, gSubM, eGet2, ePop2, eChain, i_at, eq_self, l_num, l_base, l_sp, l_held, l_words, p_sp, f_len5, l_m0, l_m1, l_m2, l_m3, l_m4, l_m5, l_m6, l_m7, l_m8, l_m9, m_h, m_w, m_i, m_seth, m_setw, m_seti, look_h, look_w, d_dV, dm_h, dm_w, put_w, put_h, drop_w, eq_any, eq_out, dicOf, locDic, toKey, v_STACK, v_GOES_ON, v_OFF_STACK, v_WILD, v_MOST_WORDS, v_RETURN, v_END, Nat.reduceLT, eqs, ine, atI2_0, atI2_1, atI3_0, atI3_1, atI3_2, atI4_0, atI4_1, atI4_2, atI4_3, atI1_0, decide_true, decide_false, decide_eq_false, gEqT, in_str, isS, strIn, Bool.or_false, Bool.false_or, Bool.true_or, Bool.or_true, Bool.and_true, Bool.true_and, Bool.and_false, Bool.false_and, List.all_cons, List.all_nil, nes, is_non, is_int, eUn, neg_int, gB, bTup, bMore, bVar, bNone, Option.bind_some, st_h, st_hA, gd_any, d_out, d_any, lcF_n, lcL, sLoopF_n, sLoop, eSrc, eLc, sFor, fuelOf, wipeE, bYes, Option.map_some, Option.map_none, Option.getD_some, Option.getD_none, tup_lst, tupF_lst, f_q_part_fits, b_q_part_fits, is_integer_eq, h1, h2]
theorem fits_i (h : 0 ≤ a ∧ a < n) : f_q_part_fits [.int a, .str "i", .int n] S = .ok (.bl true) S := by
  have h1 : decide (0 ≤ a) = true := decide_eq_true h.1
  have h2 : decide (a ≤ n - 1) = true := decide_eq_true (by omega)
  simp (disch := first | omega | decide | rfl | simp only [List.length_map]) only [fnM, startE, finR, List.length_cons, List.length_nil, List.map_cons, List.map_nil, if_true, if_false, sSeq, sBind, sAsg, sRet, sRetN, sNil, sIf, sExpr, sPar, bindE, eOp, eVar, eC, eCallB, eCall, eCons, eNil, eTup, eLst, eIf, vAnd, vOr, vNot, bAnd, bOr, bNot, asB, liftO, gVar, onlyN, List.replicate, List.append_nil, List.cons_append, List.nil_append, List.getElem?_cons_zero, List.getElem?_cons_succ, List.set_cons_zero, List.set_cons_succ, Nat.reduceAdd, Nat.reduceSub, Nat.reduceLeDiff, Bool.false_eq_true, Bool.not_true, Bool.not_false, reduceIte, Nat.reduceEqDiff, d_int, d_str, d_bl, d_non, d_tup, d_ftp, d_lst, d_fls, d_dic, d_ty, d_locL, d_locD, add_int, sub_int, mul_int, mod_int, div_int, lt_int, le_int, gt_int, ge_int, int_int, len_lst, len_tup, len_fls, idx_lst, idx_tup, idx_dicS, idx_dicI, eFld, eMeth, sFldM, gFld, gSubM, eGet2, ePop2, eChain, i_at, eq_self, l_num, l_base, l_sp, l_held, l_words, p_sp, f_len5, l_m0, l_m1, l_m2, l_m3, l_m4, l_m5, l_m6, l_m7, l_m8, l_m9, m_h, m_w, m_i, m_seth, m_setw, m_seti, look_h, look_w, d_dV, dm_h, dm_w, put_w, put_h, drop_w, eq_any, eq_out, dicOf, locDic, toKey, v_STACK, v_GOES_ON, v_OFF_STACK, v_WILD, v_MOST_WORDS, v_RETURN, v_END, Nat.reduceLT, eqs, ine, atI2_0, atI2_1, atI3_0, atI3_1, atI3_2, atI4_0, atI4_1, atI4_2, atI4_3, atI1_0, decide_true, decide_false, decide_eq_false, gEqT, in_str, isS, strIn, Bool.or_false, Bool.false_or, Bool.true_or, Bool.or_true, Bool.and_true, Bool.true_and, Bool.and_false, Bool.false_and, List.all_cons, List.all_nil, nes, is_non, is_int, eUn, neg_int, gB, bTup, bMore, bVar, bNone, Option.bind_some, st_h, st_hA, gd_any, d_out, d_any, lcF_n, lcL, sLoopF_n, sLoop, eSrc, eLc, sFor, fuelOf, wipeE, bYes, Option.map_some, Option.map_none, Option.getD_some, Option.getD_none, tup_lst, tupF_lst, f_q_part_fits, b_q_part_fits, is_integer_eq, h1, h2]
theorem toB_true {α : Type} : ∀ l : List α, toB (l.map fun _ => D.bl true) = some (l.map fun _ => true)
  | [] => rfl
  | _ :: r => by simp only [List.map_cons, toB, toB_true r, Option.map_some]
theorem all_true {α : Type} (l : List α) : gAll [.lst (l.map fun _ => D.bl true)] = some (.bl true) := by
  simp only [gAll, toB_true, Option.map_some]
  congr 2
  rw [List.all_eq_true]
  intro x hx
  obtain ⟨_, _, rfl⟩ := List.mem_map.mp hx
  rfl
theorem letter {c : Nat} (h : 97 ≤ c ∧ c ≤ 122) : gIn (.str ⟨#[c]⟩) v_LETTERS = some (.bl true) := by
  have h2 : ∀ c : Nat, c < 123 → 97 ≤ c → decide (c ∈ (Str.ofString "abcdefghijklmnopqrstuvwxyz").cps.toList) = true := by decide +kernel
  show some (D.bl (false ^^ decide (c ∈ (Str.ofString "abcdefghijklmnopqrstuvwxyz").cps.toList))) = _
  rw [h2 c (by omega) h.1]; rfl
theorem is_name_eq {x : Str} (h : okName x = true) : f_q_is_name [.str x] S = .ok (.bl true) S := by
  simp only [okName, Bool.and_eq_true, decide_eq_true_eq, List.all_eq_true] at h
  obtain ⟨h1, h2, h3⟩ := h
  have hl : gLen [.str x] = some (.int x.length) := by
    show (if x.length ≤ cap then some (D.int x.length) else none) = _
    rw [if_pos (Nat.le_trans h2 (by decide))]
  have g1 : decide ((1 : Int) ≤ (x.length : Int)) = true := decide_eq_true (by omega)
  have g2 : decide ((x.length : Int) ≤ 8) = true := decide_eq_true (by omega)
  have hx : x.length = x.cps.toList.length := by simp [Str.length]
  have hk : (signs x).length ≤ 199999 := by simp only [signs, List.length_map]; omega
  simp (disch := first | omega | decide | rfl | simp only [List.length_map]) only [fnM, startE, finR, List.length_cons, List.length_nil, List.map_cons, List.map_nil, if_true, if_false, sSeq, sBind, sAsg, sRet, sRetN, sNil, sIf, sExpr, sPar, bindE, eOp, eVar, eC, eCallB, eCall, eCons, eNil, eTup, eLst, eIf, vAnd, vOr, vNot, bAnd, bOr, bNot, asB, liftO, gVar, onlyN, List.replicate, List.append_nil, List.cons_append, List.nil_append, List.getElem?_cons_zero, List.getElem?_cons_succ, List.set_cons_zero, List.set_cons_succ, Nat.reduceAdd, Nat.reduceSub, Nat.reduceLeDiff, Bool.false_eq_true, Bool.not_true, Bool.not_false, reduceIte, Nat.reduceEqDiff, d_int, d_str, d_bl, d_non, d_tup, d_ftp, d_lst, d_fls, d_dic, d_ty, d_locL, d_locD, add_int, sub_int, mul_int, mod_int, div_int, lt_int, le_int, gt_int, ge_int, int_int, len_lst, len_tup, len_fls, idx_lst, idx_tup, idx_dicS, idx_dicI, eFld, eMeth, sFldM, gFld, gSubM, eGet2, ePop2, eChain, i_at, eq_self, l_num, l_base, l_sp, l_held, l_words, p_sp, f_len5, l_m0, l_m1, l_m2, l_m3, l_m4, l_m5, l_m6, l_m7, l_m8, l_m9, m_h, m_w, m_i, m_seth, m_setw, m_seti, look_h, look_w, d_dV, dm_h, dm_w, put_w, put_h, drop_w, eq_any, eq_out, dicOf, locDic, toKey, v_STACK, v_GOES_ON, v_OFF_STACK, v_WILD, v_MOST_WORDS, v_RETURN, v_END, Nat.reduceLT, eqs, ine, atI2_0, atI2_1, atI3_0, atI3_1, atI3_2, atI4_0, atI4_1, atI4_2, atI4_3, atI1_0, decide_true, decide_false, decide_eq_false, gEqT, in_str, isS, strIn, Bool.or_false, Bool.false_or, Bool.true_or, Bool.or_true, Bool.and_true, Bool.true_and, Bool.and_false, Bool.false_and, List.all_cons, List.all_nil, nes, is_non, is_int, eUn, neg_int, gB, bTup, bMore, bVar, bNone, Option.bind_some, st_h, st_hA, gd_any, d_out, d_any, lcF_n, lcL, sLoopF_n, sLoop, eSrc, eLc, sFor, fuelOf, wipeE, bYes, Option.map_some, Option.map_none, Option.getD_some, Option.getD_none, tup_lst, tupF_lst, f_q_is_name, b_q_is_name, isi_ss, hl, g1, g2, v_MOST_LETTERS, hk]
  rw [lcL_pure (fun _ => true) (fun _ => D.bl true) (fun d hd => by
    obtain ⟨c, hc, rfl⟩ := List.mem_map.mp hd
    refine ⟨_, rfl, rfl, fun _ => ?_⟩
    simp (disch := first | omega | decide | rfl | simp only [List.length_map]) only [fnM, startE, finR, List.length_cons, List.length_nil, List.map_cons, List.map_nil, if_true, if_false, sSeq, sBind, sAsg, sRet, sRetN, sNil, sIf, sExpr, sPar, bindE, eOp, eVar, eC, eCallB, eCall, eCons, eNil, eTup, eLst, eIf, vAnd, vOr, vNot, bAnd, bOr, bNot, asB, liftO, gVar, onlyN, List.replicate, List.append_nil, List.cons_append, List.nil_append, List.getElem?_cons_zero, List.getElem?_cons_succ, List.set_cons_zero, List.set_cons_succ, Nat.reduceAdd, Nat.reduceSub, Nat.reduceLeDiff, Bool.false_eq_true, Bool.not_true, Bool.not_false, reduceIte, Nat.reduceEqDiff, d_int, d_str, d_bl, d_non, d_tup, d_ftp, d_lst, d_fls, d_dic, d_ty, d_locL, d_locD, add_int, sub_int, mul_int, mod_int, div_int, lt_int, le_int, gt_int, ge_int, int_int, len_lst, len_tup, len_fls, idx_lst, idx_tup, idx_dicS, idx_dicI, eFld, eMeth, sFldM, gFld, gSubM, eGet2, ePop2, eChain, i_at, eq_self, l_num, l_base, l_sp, l_held, l_words, p_sp, f_len5, l_m0, l_m1, l_m2, l_m3, l_m4, l_m5, l_m6, l_m7, l_m8, l_m9, m_h, m_w, m_i, m_seth, m_setw, m_seti, look_h, look_w, d_dV, dm_h, dm_w, put_w, put_h, drop_w, eq_any, eq_out, dicOf, locDic, toKey, v_STACK, v_GOES_ON, v_OFF_STACK, v_WILD, v_MOST_WORDS, v_RETURN, v_END, Nat.reduceLT, eqs, ine, atI2_0, atI2_1, atI3_0, atI3_1, atI3_2, atI4_0, atI4_1, atI4_2, atI4_3, atI1_0, decide_true, decide_false, decide_eq_false, gEqT, in_str, isS, strIn, Bool.or_false, Bool.false_or, Bool.true_or, Bool.or_true, Bool.and_true, Bool.true_and, Bool.and_false, Bool.false_and, List.all_cons, List.all_nil, nes, is_non, is_int, eUn, neg_int, gB, bTup, bMore, bVar, bNone, Option.bind_some, st_h, st_hA, gd_any, d_out, d_any, lcF_n, lcL, sLoopF_n, sLoop, eSrc, eLc, sFor, fuelOf, wipeE, bYes, Option.map_some, Option.map_none, Option.getD_some, Option.getD_none, tup_lst, tupF_lst, show deref S v_LETTERS = v_LETTERS from rfl, letter (h3 c hc)])]
  simp (disch := first | omega | decide | rfl | simp only [List.length_map]) only [fnM, startE, finR, List.length_cons, List.length_nil, List.map_cons, List.map_nil, if_true, if_false, sSeq, sBind, sAsg, sRet, sRetN, sNil, sIf, sExpr, sPar, bindE, eOp, eVar, eC, eCallB, eCall, eCons, eNil, eTup, eLst, eIf, vAnd, vOr, vNot, bAnd, bOr, bNot, asB, liftO, gVar, onlyN, List.replicate, List.append_nil, List.cons_append, List.nil_append, List.getElem?_cons_zero, List.getElem?_cons_succ, List.set_cons_zero, List.set_cons_succ, Nat.reduceAdd, Nat.reduceSub, Nat.reduceLeDiff, Bool.false_eq_true, Bool.not_true, Bool.not_false, reduceIte, Nat.reduceEqDiff, d_int, d_str, d_bl, d_non, d_tup, d_ftp, d_lst, d_fls, d_dic, d_ty, d_locL, d_locD, add_int, sub_int, mul_int, mod_int, div_int, lt_int, le_int, gt_int, ge_int, int_int, len_lst, len_tup, len_fls, idx_lst, idx_tup, idx_dicS, idx_dicI, eFld, eMeth, sFldM, gFld, gSubM, eGet2, ePop2, eChain, i_at, eq_self, l_num, l_base, l_sp, l_held, l_words, p_sp, f_len5, l_m0, l_m1, l_m2, l_m3, l_m4, l_m5, l_m6, l_m7, l_m8, l_m9, m_h, m_w, m_i, m_seth, m_setw, m_seti, look_h, look_w, d_dV, dm_h, dm_w, put_w, put_h, drop_w, eq_any, eq_out, dicOf, locDic, toKey, v_STACK, v_GOES_ON, v_OFF_STACK, v_WILD, v_MOST_WORDS, v_RETURN, v_END, Nat.reduceLT, eqs, ine, atI2_0, atI2_1, atI3_0, atI3_1, atI3_2, atI4_0, atI4_1, atI4_2, atI4_3, atI1_0, decide_true, decide_false, decide_eq_false, gEqT, in_str, isS, strIn, Bool.or_false, Bool.false_or, Bool.true_or, Bool.or_true, Bool.and_true, Bool.true_and, Bool.and_false, Bool.false_and, List.all_cons, List.all_nil, nes, is_non, is_int, eUn, neg_int, gB, bTup, bMore, bVar, bNone, Option.bind_some, st_h, st_hA, gd_any, d_out, d_any, lcF_n, lcL, sLoopF_n, sLoop, eSrc, eLc, sFor, fuelOf, wipeE, bYes, Option.map_some, Option.map_none, Option.getD_some, Option.getD_none, tup_lst, tupF_lst, all_true]
theorem fits_c {x : Str} (h : okName x = true) (d : D) : f_q_part_fits [.str x, .str "c", d] S = .ok (.bl true) S := by
  simp (disch := first | omega | decide | rfl | simp only [List.length_map]) only [fnM, startE, finR, List.length_cons, List.length_nil, List.map_cons, List.map_nil, if_true, if_false, sSeq, sBind, sAsg, sRet, sRetN, sNil, sIf, sExpr, sPar, bindE, eOp, eVar, eC, eCallB, eCall, eCons, eNil, eTup, eLst, eIf, vAnd, vOr, vNot, bAnd, bOr, bNot, asB, liftO, gVar, onlyN, List.replicate, List.append_nil, List.cons_append, List.nil_append, List.getElem?_cons_zero, List.getElem?_cons_succ, List.set_cons_zero, List.set_cons_succ, Nat.reduceAdd, Nat.reduceSub, Nat.reduceLeDiff, Bool.false_eq_true, Bool.not_true, Bool.not_false, reduceIte, Nat.reduceEqDiff, d_int, d_str, d_bl, d_non, d_tup, d_ftp, d_lst, d_fls, d_dic, d_ty, d_locL, d_locD, add_int, sub_int, mul_int, mod_int, div_int, lt_int, le_int, gt_int, ge_int, int_int, len_lst, len_tup, len_fls, idx_lst, idx_tup, idx_dicS, idx_dicI, eFld, eMeth, sFldM, gFld, gSubM, eGet2, ePop2, eChain, i_at, eq_self, l_num, l_base, l_sp, l_held, l_words, p_sp, f_len5, l_m0, l_m1, l_m2, l_m3, l_m4, l_m5, l_m6, l_m7, l_m8, l_m9, m_h, m_w, m_i, m_seth, m_setw, m_seti, look_h, look_w, d_dV, dm_h, dm_w, put_w, put_h, drop_w, eq_any, eq_out, dicOf, locDic, toKey, v_STACK, v_GOES_ON, v_OFF_STACK, v_WILD, v_MOST_WORDS, v_RETURN, v_END, Nat.reduceLT, eqs, ine, atI2_0, atI2_1, atI3_0, atI3_1, atI3_2, atI4_0, atI4_1, atI4_2, atI4_3, atI1_0, decide_true, decide_false, decide_eq_false, gEqT, in_str, isS, strIn, Bool.or_false, Bool.false_or, Bool.true_or, Bool.or_true, Bool.and_true, Bool.true_and, Bool.and_false, Bool.false_and, List.all_cons, List.all_nil, nes, is_non, is_int, eUn, neg_int, gB, bTup, bMore, bVar, bNone, Option.bind_some, st_h, st_hA, gd_any, d_out, d_any, lcF_n, lcL, sLoopF_n, sLoop, eSrc, eLc, sFor, fuelOf, wipeE, bYes, Option.map_some, Option.map_none, Option.getD_some, Option.getD_none, tup_lst, tupF_lst, f_q_part_fits, b_q_part_fits, is_name_eq h]
theorem form_eq (x : Str) : f_q_form_of [.str x] S = .ok ((tab_FORMS.lookup x).getD .non) S := by
  simp (disch := first | omega | decide | rfl | simp only [List.length_map]) only [fnM, startE, finR, List.length_cons, List.length_nil, List.map_cons, List.map_nil, if_true, if_false, sSeq, sBind, sAsg, sRet, sRetN, sNil, sIf, sExpr, sPar, bindE, eOp, eVar, eC, eCallB, eCall, eCons, eNil, eTup, eLst, eIf, vAnd, vOr, vNot, bAnd, bOr, bNot, asB, liftO, gVar, onlyN, List.replicate, List.append_nil, List.cons_append, List.nil_append, List.getElem?_cons_zero, List.getElem?_cons_succ, List.set_cons_zero, List.set_cons_succ, Nat.reduceAdd, Nat.reduceSub, Nat.reduceLeDiff, Bool.false_eq_true, Bool.not_true, Bool.not_false, reduceIte, Nat.reduceEqDiff, d_int, d_str, d_bl, d_non, d_tup, d_ftp, d_lst, d_fls, d_dic, d_ty, d_locL, d_locD, add_int, sub_int, mul_int, mod_int, div_int, lt_int, le_int, gt_int, ge_int, int_int, len_lst, len_tup, len_fls, idx_lst, idx_tup, idx_dicS, idx_dicI, eFld, eMeth, sFldM, gFld, gSubM, eGet2, ePop2, eChain, i_at, eq_self, l_num, l_base, l_sp, l_held, l_words, p_sp, f_len5, l_m0, l_m1, l_m2, l_m3, l_m4, l_m5, l_m6, l_m7, l_m8, l_m9, m_h, m_w, m_i, m_seth, m_setw, m_seti, look_h, look_w, d_dV, dm_h, dm_w, put_w, put_h, drop_w, eq_any, eq_out, dicOf, locDic, toKey, v_STACK, v_GOES_ON, v_OFF_STACK, v_WILD, v_MOST_WORDS, v_RETURN, v_END, Nat.reduceLT, eqs, ine, atI2_0, atI2_1, atI3_0, atI3_1, atI3_2, atI4_0, atI4_1, atI4_2, atI4_3, atI1_0, decide_true, decide_false, decide_eq_false, gEqT, in_str, isS, strIn, Bool.or_false, Bool.false_or, Bool.true_or, Bool.or_true, Bool.and_true, Bool.true_and, Bool.and_false, Bool.false_and, List.all_cons, List.all_nil, nes, is_non, is_int, eUn, neg_int, gB, bTup, bMore, bVar, bNone, Option.bind_some, st_h, st_hA, gd_any, d_out, d_any, lcF_n, lcL, sLoopF_n, sLoop, eSrc, eLc, sFor, fuelOf, wipeE, bYes, Option.map_some, Option.map_none, Option.getD_some, Option.getD_none, tup_lst, tupF_lst, f_q_form_of, b_q_form_of, eKGet]
theorem cut2 {a b : D} : gCut (.tup [a, b]) (some 1) none = some (.tup [b]) := rfl
theorem cut1 {a : D} : gCut (.tup [a]) (some 1) none = some (.tup []) := rfl
theorem cut3 {a b c : D} : gCut (.tup [a, b, c]) (some 1) none = some (.tup [b, c]) := rfl
theorem cut4 {a b c d : D} : gCut (.tup [a, b, c, d]) (some 1) none = some (.tup [b, c, d]) := rfl
theorem all0 : gAll [.lst []] = some (.bl true) := rfl
theorem all1 : gAll [.lst [.bl true]] = some (.bl true) := rfl
theorem all2 : gAll [.lst [.bl true, .bl true]] = some (.bl true) := rfl
theorem all3 : gAll [.lst [.bl true, .bl true, .bl true]] = some (.bl true) := rfl
theorem is_str {x : Str} : gIs (.str x) .non = some (.bl false) := rfl
theorem ne_int {i j : Int} : gNe (.int i) (.int j) = some (.bl (!decide (i = j))) := by simp [gNe, eqG]
end
end U
set_option Elab.async false
set_option linter.all false
set_option maxRecDepth 100000
set_option maxHeartbeats 4000000
namespace U
open PySem Sh L2
section
variable {S : Sto} {n a lo hi : Int}
theorem sg_r : signs ("r" : Str) = [.str "r"] := rfl
theorem sg_g : signs ("g" : Str) = [.str "g"] := rfl
theorem sg_c : signs ("c" : Str) = [.str "c"] := rfl
theorem sg_i : signs ("i" : Str) = [.str "i"] := rfl
theorem sg_rr : signs ("rr" : Str) = [.str "r", .str "r"] := rfl
theorem sg_rn : signs ("rn" : Str) = [.str "r", .str "n"] := rfl
theorem sg_bnr : signs ("bnr" : Str) = [.str "b", .str "n", .str "r"] := rfl
theorem sg_rbn : signs ("rbn" : Str) = [.str "r", .str "b", .str "n"] := rfl
theorem sg_0 : signs ("" : Str) = [] := rfl
theorem ln_r : gLen [.str "r"] = some (.int 1) := rfl
theorem ln_g : gLen [.str "g"] = some (.int 1) := rfl
theorem ln_c : gLen [.str "c"] = some (.int 1) := rfl
theorem ln_i : gLen [.str "i"] = some (.int 1) := rfl
theorem ln_rr : gLen [.str "rr"] = some (.int 2) := rfl
theorem ln_rn : gLen [.str "rn"] = some (.int 2) := rfl
theorem ln_bnr : gLen [.str "bnr"] = some (.int 3) := rfl
theorem ln_rbn : gLen [.str "rbn"] = some (.int 3) := rfl
theorem ln_0 : gLen [.str ""] = some (.int 0) := rfl
theorem fm_push : (tab_FORMS.lookup ("push" : Str)).getD D.non = D.str "r" := rfl
theorem fm_pop : (tab_FORMS.lookup ("pop" : Str)).getD D.non = D.str "r" := rfl
theorem fm_grow : (tab_FORMS.lookup ("grow" : Str)).getD D.non = D.str "g" := rfl
theorem fm_shrink : (tab_FORMS.lookup ("shrink" : Str)).getD D.non = D.str "g" := rfl
theorem fm_move : (tab_FORMS.lookup ("move" : Str)).getD D.non = D.str "rr" := rfl
theorem fm_point : (tab_FORMS.lookup ("point" : Str)).getD D.non = D.str "rn" := rfl
theorem fm_setsp : (tab_FORMS.lookup ("setsp" : Str)).getD D.non = D.str "rn" := rfl
theorem fm_work : (tab_FORMS.lookup ("work" : Str)).getD D.non = D.str "r" := rfl
theorem fm_store : (tab_FORMS.lookup ("store" : Str)).getD D.non = D.str "bnr" := rfl
theorem fm_load : (tab_FORMS.lookup ("load" : Str)).getD D.non = D.str "rbn" := rfl
theorem fm_call : (tab_FORMS.lookup ("call" : Str)).getD D.non = D.str "c" := rfl
theorem fm_jump : (tab_FORMS.lookup ("jump" : Str)).getD D.non = D.str "i" := rfl
theorem fm_branch : (tab_FORMS.lookup ("branch" : Str)).getD D.non = D.str "i" := rfl
theorem fm_return : (tab_FORMS.lookup ("return" : Str)).getD D.non = D.str "" := rfl
theorem is_instruction_eq {i : Ins} (h : okIns n i = true) : f_q_is_instruction [dI i, .int n] S = .ok (.bl true) S := by
  cases i <;> simp only [okIns, decide_eq_true_eq] at h <;> simp (disch := first | omega | decide | rfl | simp only [List.length_map]) only [fnM, startE, finR, List.length_cons, List.length_nil, List.map_cons, List.map_nil, if_true, if_false, sSeq, sBind, sAsg, sRet, sRetN, sNil, sIf, sExpr, sPar, bindE, eOp, eVar, eC, eCallB, eCall, eCons, eNil, eTup, eLst, eIf, vAnd, vOr, vNot, bAnd, bOr, bNot, asB, liftO, gVar, onlyN, List.replicate, List.append_nil, List.cons_append, List.nil_append, List.getElem?_cons_zero, List.getElem?_cons_succ, List.set_cons_zero, List.set_cons_succ, Nat.reduceAdd, Nat.reduceSub, Nat.reduceLeDiff, Bool.false_eq_true, Bool.not_true, Bool.not_false, reduceIte, Nat.reduceEqDiff, d_int, d_str, d_bl, d_non, d_tup, d_ftp, d_lst, d_fls, d_dic, d_ty, d_locL, d_locD, add_int, sub_int, mul_int, mod_int, div_int, lt_int, le_int, gt_int, ge_int, int_int, len_lst, len_tup, len_fls, idx_lst, idx_tup, idx_dicS, idx_dicI, eFld, eMeth, sFldM, gFld, gSubM, eGet2, ePop2, eChain, i_at, eq_self, l_num, l_base, l_sp, l_held, l_words, p_sp, f_len5, l_m0, l_m1, l_m2, l_m3, l_m4, l_m5, l_m6, l_m7, l_m8, l_m9, m_h, m_w, m_i, m_seth, m_setw, m_seti, look_h, look_w, d_dV, dm_h, dm_w, put_w, put_h, drop_w, eq_any, eq_out, dicOf, locDic, toKey, v_STACK, v_GOES_ON, v_OFF_STACK, v_WILD, v_MOST_WORDS, v_RETURN, v_END, Nat.reduceLT, eqs, ine, atI2_0, atI2_1, atI3_0, atI3_1, atI3_2, atI4_0, atI4_1, atI4_2, atI4_3, atI1_0, decide_true, decide_false, decide_eq_false, gEqT, in_str, isS, strIn, Bool.or_false, Bool.false_or, Bool.true_or, Bool.or_true, Bool.and_true, Bool.true_and, Bool.and_false, Bool.false_and, List.all_cons, List.all_nil, nes, is_non, is_int, eUn, neg_int, gB, bTup, bMore, bVar, bNone, Option.bind_some, st_h, st_hA, gd_any, d_out, d_any, lcF_n, lcL, sLoopF_n, sLoop, eSrc, eLc, sFor, fuelOf, wipeE, bYes, Option.map_some, Option.map_none, Option.getD_some, Option.getD_none, tup_lst, tupF_lst, f_q_is_instruction, b_q_is_instruction, dI, isi_tt, isi_ss, form_eq, fm_push, fm_pop, fm_grow, fm_shrink, fm_move, fm_point, fm_setsp, fm_work, fm_store, fm_load, fm_call, fm_jump, fm_branch, fm_return, is_str, ln_r, ln_g, ln_c, ln_i, ln_rr, ln_rn, ln_bnr, ln_rbn, ln_0, ne_int, eCut, asI, noI, cut1, cut2, cut3, cut4, eZip, sqOf, sg_r, sg_g, sg_c, sg_i, sg_rr, sg_rn, sg_bnr, sg_rbn, sg_0, zipD, List.zipWith_cons_cons, List.zipWith_nil_left, fits_r, fits_b, fits_g, fits_n, fits_i, fits_c, h, all0, all1, all2, all3, Int.reduceAdd, Int.reduceEq, Int.cast_ofNat_Int, lc_0, lc_1, lc_2, lc_3]
/-- a code -/
structure OkCode (code : List Ins) : Prop where
  lo : 1 ≤ code.length
  hi : code.length ≤ 60
  ok : ∀ i ∈ code, okIns code.length i = true
def decOk (code : List Ins) : Bool := decide (1 ≤ code.length) && decide (code.length ≤ 60) && code.all fun i => okIns code.length i
theorem okCode_of {code : List Ins} (h : decOk code = true) : OkCode code := by
  simp only [decOk, Bool.and_eq_true, decide_eq_true_eq, List.all_eq_true] at h
  exact ⟨h.1.1, h.1.2, h.2⟩
theorem need_loop (code : List Ins) (hc : code.length ≤ 60) : ∀ (l : List Ins) (k : Int) (x1 x2 : Option D), (∀ i ∈ l, okIns code.length i = true) →
    ∃ y1 y2, sLoop (gB (bTup 2 (bMore (bVar 1) (bMore (bVar 2) (bNone))))) (sIf (bNot (asB (eCall f_q_is_instruction (eCons (eVar 2) (eCons (eCallB gLen (eCons (eVar 0) (eNil))) (eNil)))))) ((fun _ _ => .bad)) (sNil)) (zipD (rngD k l.length) (l.map dI)) [some (dC code), x1, x2] S = .nx [some (dC code), y1, y2] S
  | [], k, x1, x2, _ => ⟨x1, x2, rfl⟩
  | i :: l, k, x1, x2, h => by
    obtain ⟨y1, y2, ih⟩ := need_loop code hc l (k + 1) (some (.int k)) (some (dI i)) fun j hj => h j (List.mem_cons_of_mem _ hj)
    refine ⟨y1, y2, ?_⟩
    have e : zipD (rngD k (i :: l).length) ((i :: l).map dI) = .tup [.int k, dI i] :: zipD (rngD (k + 1) l.length) (l.map dI) := by
      have := enum_cons (k := k) (x := dI i) (l := l.map dI)
      simpa using this
    rw [e, ← ih]
    have hd : deref S (dC code) = .tup (code.map dI) := rfl
    simp (disch := first | omega | decide | rfl | simp only [List.length_map]) only [fnM, startE, finR, List.length_cons, List.length_nil, List.map_cons, List.map_nil, if_true, if_false, sSeq, sBind, sAsg, sRet, sRetN, sNil, sIf, sExpr, sPar, bindE, eOp, eVar, eC, eCallB, eCall, eCons, eNil, eTup, eLst, eIf, vAnd, vOr, vNot, bAnd, bOr, bNot, asB, liftO, gVar, onlyN, List.replicate, List.append_nil, List.cons_append, List.nil_append, List.getElem?_cons_zero, List.getElem?_cons_succ, List.set_cons_zero, List.set_cons_succ, Nat.reduceAdd, Nat.reduceSub, Nat.reduceLeDiff, Bool.false_eq_true, Bool.not_true, Bool.not_false, reduceIte, Nat.reduceEqDiff, d_int, d_str, d_bl, d_non, d_tup, d_ftp, d_lst, d_fls, d_dic, d_ty, d_locL, d_locD, add_int, sub_int, mul_int, mod_int, div_int, lt_int, le_int, gt_int, ge_int, int_int, len_lst, len_tup, len_fls, idx_lst, idx_tup, idx_dicS, idx_dicI, eFld, eMeth, sFldM, gFld, gSubM, eGet2, ePop2, eChain, i_at, eq_self, l_num, l_base, l_sp, l_held, l_words, p_sp, f_len5, l_m0, l_m1, l_m2, l_m3, l_m4, l_m5, l_m6, l_m7, l_m8, l_m9, m_h, m_w, m_i, m_seth, m_setw, m_seti, look_h, look_w, d_dV, dm_h, dm_w, put_w, put_h, drop_w, eq_any, eq_out, dicOf, locDic, toKey, v_STACK, v_GOES_ON, v_OFF_STACK, v_WILD, v_MOST_WORDS, v_RETURN, v_END, Nat.reduceLT, eqs, ine, atI2_0, atI2_1, atI3_0, atI3_1, atI3_2, atI4_0, atI4_1, atI4_2, atI4_3, atI1_0, decide_true, decide_false, decide_eq_false, gEqT, in_str, isS, strIn, Bool.or_false, Bool.false_or, Bool.true_or, Bool.or_true, Bool.and_true, Bool.true_and, Bool.and_false, Bool.false_and, List.all_cons, List.all_nil, nes, is_non, is_int, eUn, neg_int, gB, bTup, bMore, bVar, bNone, Option.bind_some, st_h, st_hA, gd_any, d_out, d_any, lcF_n, lcL, sLoopF_n, sLoop, eSrc, eLc, sFor, fuelOf, wipeE, bYes, Option.map_some, Option.map_none, Option.getD_some, Option.getD_none, tup_lst, tupF_lst, hd, List.length_map, is_instruction_eq (h i List.mem_cons_self)]
theorem need_code_eq {code : List Ins} (h : OkCode code) : f_q_need_code [dC code] S = .ok (dC code) S := by
  have hd : deref S (dC code) = .tup (code.map dI) := rfl
  have g1 : decide ((1 : Int) ≤ (code.length : Int)) = true := decide_eq_true (by have := h.lo; omega)
  have g2 : decide ((code.length : Int) ≤ 60) = true := decide_eq_true (by have := h.hi; omega)
  obtain ⟨y1, y2, e⟩ := need_loop (S := S) code h.hi code 0 none none h.ok
  have e' : sLoop (gB (bTup 2 (bMore (bVar 1) (bMore (bVar 2) (bNone))))) (sIf (bNot (asB (eCall f_q_is_instruction (eCons (eVar 2) (eCons (eCallB gLen (eCons (eVar 0) (eNil))) (eNil)))))) ((fun _ _ => .bad)) (sNil)) (enumD (code.map dI)) [some (dC code), none, none] S = .nx [some (dC code), y1, y2] S := by
    unfold enumD
    rw [List.length_map]
    exact e
  have hs : sqOf (dC code) = some (code.map dI) := rfl
  have hf : ∀ e : Sh.Env, sLoopF (gB (bTup 2 (bMore (bVar 1) (bMore (bVar 2) (bNone))))) (sIf (bNot (asB (eCall f_q_is_instruction (eCons (eVar 2) (eCons (eCallB gLen (eCons (eVar 0) (eNil))) (eNil)))))) ((fun _ _ => .bad)) (sNil)) ((enumD (code.map dI)).length + 1) (.st (enumD (code.map dI))) 0 e S = sLoop (gB (bTup 2 (bMore (bVar 1) (bMore (bVar 2) (bNone))))) (sIf (bNot (asB (eCall f_q_is_instruction (eCons (eVar 2) (eCons (eCallB gLen (eCons (eVar 0) (eNil))) (eNil)))))) ((fun _ _ => .bad)) (sNil)) (enumD (code.map dI)) e S := fun e => sLoopF_0 _ _ _ _ _
  show finR (b_q_need_code [some (dC code), none, none] S) = _
  unfold b_q_need_code
  simp (disch := omega) only [fnM, startE, finR, List.length_cons, List.length_nil, List.map_cons, List.map_nil, if_true, if_false, sSeq, sBind, sAsg, sRet, sRetN, sNil, sIf, sExpr, sPar, bindE, eOp, eVar, eC, eCallB, eCall, eCons, eNil, eTup, eLst, eIf, vAnd, vOr, vNot, bAnd, bOr, bNot, asB, liftO, gVar, onlyN, List.replicate, List.append_nil, List.cons_append, List.nil_append, List.getElem?_cons_zero, List.getElem?_cons_succ, List.set_cons_zero, List.set_cons_succ, Nat.reduceAdd, Nat.reduceSub, Nat.reduceLeDiff, Bool.false_eq_true, Bool.not_true, Bool.not_false, reduceIte, Nat.reduceEqDiff, d_int, d_str, d_bl, d_non, d_tup, d_ftp, d_lst, d_fls, d_dic, d_ty, d_locL, d_locD, add_int, sub_int, mul_int, mod_int, div_int, lt_int, le_int, gt_int, ge_int, int_int, len_lst, len_tup, len_fls, idx_lst, idx_tup, idx_dicS, idx_dicI, eFld, eMeth, sFldM, gFld, gSubM, eGet2, ePop2, eChain, i_at, eq_self, l_num, l_base, l_sp, l_held, l_words, p_sp, f_len5, l_m0, l_m1, l_m2, l_m3, l_m4, l_m5, l_m6, l_m7, l_m8, l_m9, m_h, m_w, m_i, m_seth, m_setw, m_seti, look_h, look_w, d_dV, dm_h, dm_w, put_w, put_h, drop_w, eq_any, eq_out, dicOf, locDic, toKey, v_STACK, v_GOES_ON, v_OFF_STACK, v_WILD, v_MOST_WORDS, v_RETURN, v_END, Nat.reduceLT, eqs, ine, hd, List.length_map, isi_tt, g1, g2, v_MOST_CODE, sFor, eEnum, hs, fuelOf, hf, e']
end
end U
set_option Elab.async false
set_option linter.all false
set_option maxRecDepth 100000
set_option maxHeartbeats 4000000
namespace U
open PySem Sh L2
/-! ### stops can be written -/
theorem smV {v : Vl} (h : okV v = true) : smD (pV v) = true := by
  cases v with
  | fst g => cases g <;> decide +kernel
  | wrd n a =>
    have := of_decide_eq_true h
    simp only [pV, smD, smDs, Bool.and_true, Bool.and_eq_true, decide_eq_true_eq]
    exact ⟨by decide +kernel, by omega, by omega⟩
  | any => decide +kernel
  | bck => decide +kernel
theorem dpV (v : Vl) : (pV v).depth ≤ 1 := by cases v <;> exact Nat.le_of_eq rfl
theorem wtV {v : Vl} (h : okV v = true) : (pV v).weight ≤ 80 := by
  cases v with
  | fst g => cases g <;> decide +kernel
  | wrd n a =>
    have := of_decide_eq_true h
    have h1 := weight_int (i := n) (by omega)
    have h2 := weight_int (i := a) (by omega)
    have h3 : (PyData.str "word").weight = 4 := rfl
    simp only [pV, PyData.weight, PyData.weightAll] at *
    omega
  | any => decide +kernel
  | bck => decide +kernel
theorem smS {t : Stp} (g : GoodS t) (h : t.at_ < 1000) : smD (pS t) = true := by
  have h0 := g.at0
  have h1 : -64 ≤ t.sp := g.m.sp0
  have h2 : t.sp ≤ 0 := g.m.sp1
  have hv : ∀ r : Rg, smD (pV (t.h.get r)) = true := fun r => smV (g.m.hh r)
  have e1 := hv .p; have e2 := hv .q; have e3 := hv .r; have e4 := hv .s; have e5 := hv .x; have e6 := hv .y
  simp only [Hd.get] at e1 e2 e3 e4 e5 e6
  have hw : smDs (t.w.map pP) = true := smDs_map fun p hp => by
    have := g.m.ks p hp
    simp only [pP, smD, smDs, smV this.2.2, Bool.and_true, decide_eq_true_eq]
    omega
  simp only [pS, smD, smDs, e1, e2, e3, e4, e5, e6, hw, Bool.and_true, Bool.and_eq_true, decide_eq_true_eq]
  omega
theorem dpP (p : Int × Vl) : (pP p).depth ≤ 2 := by
  have := dpV p.2
  simp only [pP, PyData.depth, PyData.depthAll]
  omega
theorem dpS (t : Stp) : (pS t).depth ≤ 4 := by
  have h1 := dpV t.h.p; have h2 := dpV t.h.q; have h3 := dpV t.h.r; have h4 := dpV t.h.s; have h5 := dpV t.h.x; have h6 := dpV t.h.y
  have h7 := depth_map (f := pP) (n := 2) (l := t.w) fun p _ => dpP p
  simp only [pS, PyData.depth, PyData.depthAll]
  omega
theorem wtP {p : Int × Vl} (h : -64 ≤ p.1 ∧ p.1 ≤ 0 ∧ okV p.2 = true) : (pP p).weight ≤ 120 := by
  have h1 := weight_int (i := p.1) (by omega)
  have h2 := wtV h.2.2
  simp only [pP, PyData.weight, PyData.weightAll] at *
  omega
theorem wtS {t : Stp} (g : GoodS t) (h : t.at_ < 1000) : (pS t).weight ≤ 20000 := by
  have h0 := g.at0
  have h1 : -64 ≤ t.sp := g.m.sp0
  have h2 : t.sp ≤ 0 := g.m.sp1
  have hv : ∀ r : Rg, (pV (t.h.get r)).weight ≤ 80 := fun r => wtV (g.m.hh r)
  have e1 := hv .p; have e2 := hv .q; have e3 := hv .r; have e4 := hv .s; have e5 := hv .x; have e6 := hv .y
  simp only [Hd.get] at e1 e2 e3 e4 e5 e6
  have hw := weight_map (f := pP) (n := 120) (l := t.w) fun p hp => wtP (g.m.ks p hp)
  have hl : t.w.length ≤ 65 := g.m.len
  have i1 := weight_int (i := t.at_) (by omega)
  have i2 := weight_int (i := t.sp) (by omega)
  simp only [pS, PyData.weight, PyData.weightAll] at *
  have : t.w.length * 121 ≤ 65 * 121 := Nat.mul_le_mul_right _ hl
  omega
theorem fitS {t : Stp} (g : GoodS t) (h : t.at_ < 1000) : fitR (pS t) = true := fit_of (smS g h) (Nat.le_trans (dpS t) (by decide)) (Nat.le_trans (wtS g h) (by decide))
theorem eq_nilS {l : List Stp} (h : ∀ t ∈ l, GoodS t ∧ t.at_ < 1000) : gEq (.lst (l.map dStop)) (.lst []) = some (.bl l.isEmpty) := by
  have h1 := toPys_map toPy_S l
  have := eq_nilL h1 (shaped_of (by simp only [smD]; exact smDs_map fun t ht => smS (h t ht).1 (h t ht).2) (by
    simp only [PyData.depth]
    have := depth_map (f := pS) (n := 4) (l := l) fun t _ => dpS t
    omega))
  rw [this]
  simp [List.isEmpty_map]
/-! ### along a path -/
section
variable {S : Sto}
theorem path_at {path : List Int} {k : Nat} {a : Int} (h : path[k]? = some a) : atI (path.map D.int) (k : Int) = some (.int a) := by
  have hl := (List.getElem?_eq_some_iff.mp h).1
  unfold atI ixN
  rw [if_pos (by omega), List.length_map, if_pos (by omega)]
  simp [h]
theorem suc_lt {n : Nat} {t : Stp} {i : Ins} {u : Stp} (h : u ∈ (sucI n t i).1) : u.at_ < n := by
  unfold sucI at h
  split at h
  · cases h
  · split at h
    · obtain ⟨a, ha, rfl⟩ := List.mem_map.mp h
      exact of_decide_eq_true (List.mem_filter.mp ha).2
    · cases h
def pathLoop : SM := (sSeq (sAsg (eLc [5] (eSrc (eOp gIdx (eCall f_q_successors (eCons (eVar 0) (eCons (eVar 2) (eNil)))) (eC (.int 0)))) (bVar 5) (asB (eOp gEq (eOp gIdx (eVar 5) (eC (.int 0))) (eOp gIdx (eVar 1) (eVar 3)))) (eVar 5)) (gVar 4)) (sSeq (sIf (bOr (asB (eOp gEq (eVar 4) (eLst (eNil)))) (bNot (asB (eCall f_q_is_integer (eCons (eOp gIdx (eVar 1) (eVar 3)) (eCons (eC (.int 0)) (eCons (eOp gSub (eCallB gLen (eCons (eVar 0) (eNil))) (eC (.int 1))) (eNil)))))))) ((fun _ _ => .bad)) (sNil)) (sAsg (eOp gIdx (eVar 4) (eC (.int 0))) (gVar 2))))
theorem stop_step {code : List Ins} (hc : OkCode code) {path : List Int} {k : Nat} {a : Int} (hp : path[k]? = some a) {t u : Stp} {i : Ins} (g : GoodS t) (hi : code[t.at_.toNat]? = some i) (hu : ((sucI code.length t i).1.find? fun u => decide (u.at_ = a)) = some u) (x4 : Option D) :
    ∃ T y4, pathLoop [some (dC code), some (.tup (path.map .int)), some (dStop t), some (.int k), x4, none] S = .nx [some (dC code), some (.tup (path.map .int)), some (dStop u), some (.int k), y4, none] (S ++ T) := by
  have hl : t.w.length ≤ 65 := g.m.len
  obtain ⟨m, hs⟩ := successors_eq (S := S) code t i g.at0 hi g.m.nd (by omega)
  have hok := hc.ok i (List.mem_of_getElem? hi)
  have hmem := List.mem_of_find?_eq_some hu
  have hua : u.at_ = a := of_decide_eq_true (List.find?_some (p := fun u : Stp => decide (u.at_ = a)) hu)
  have hpa := path_at hp
  have hd : ∀ S : Sto, deref S (dC code) = .tup (code.map dI) := fun _ => rfl
  have hlt := suc_lt hmem
  have hu0 : 0 ≤ u.at_ := (suc_good g hok u hmem).1.at0
  have g1 : decide ((0 : Int) ≤ a) = true := decide_eq_true (by omega)
  have g2 : decide (a ≤ (code.length : Int) - 1) = true := decide_eq_true (by omega)
  have hk : (sucI code.length t i).1.length ≤ 199999 := by
    unfold sucI
    split
    · simp
    · split
      · have h1 : ((nxt i t.at_).filter fun a => decide (a < (code.length : Int))).length ≤ (nxt i t.at_).length := List.length_filter_le _ _
        have h2 : (nxt i t.at_).length ≤ 2 := by
          cases i <;> simp [nxt, sortI_len, onceI] <;> split <;> simp
        rw [List.length_map]; omega
      · simp
  have hhead : (((sucI code.length t i).1.filter fun u => decide (u.at_ = a)).map dStop).head? = some (dStop u) := by
    rw [List.head?_map, List.head?_filter, hu]; rfl
  have hat : atI (((sucI code.length t i).1.filter fun u => decide (u.at_ = a)).map dStop) 0 = some (dStop u) := by
    cases q : ((sucI code.length t i).1.filter fun u => decide (u.at_ = a)).map dStop with
    | nil => rw [q] at hhead; cases hhead
    | cons x r => rw [q] at hhead; cases hhead; exact at0
  have hne : ((sucI code.length t i).1.filter fun u => decide (u.at_ = a)).isEmpty = false := by
    rw [List.isEmpty_eq_false_iff]
    intro z
    rw [z] at hhead; cases hhead
  have heq := eq_nilS (l := (sucI code.length t i).1.filter fun u => decide (u.at_ = a)) fun v hv => by
    have hv' := (List.mem_filter.mp hv).1
    have h1 := suc_lt hv'
    have h2 := hc.hi
    exact ⟨(suc_good g hok v hv').1, by omega⟩
  rw [hne] at heq
  have hlc : lcL (bVar 5) (asB (eOp gEq (eOp gIdx (eVar 5) (eC (.int 0))) (eOp gIdx (eVar 1) (eVar 3)))) (eVar 5) [some (dC code), some (.tup (path.map .int)), some (dStop t), some (.int k), x4, none] ((sucI code.length t i).1.map dStop) (ms S m) = .ok (((sucI code.length t i).1.filter fun u => decide (u.at_ = a)).map dStop) (ms S m) := by
    rw [lcL_pure (fun d => match d with | .tup (.int b :: _) => decide (b = a) | _ => false) (fun d => d) (fun d hd => by
      obtain ⟨v, hv, rfl⟩ := List.mem_map.mp hd
      refine ⟨_, rfl, ?_, fun _ => ?_⟩
      · simp (disch := first | omega | decide | rfl | simp only [List.length_map]) only [fnM, startE, finR, List.length_cons, List.length_nil, List.map_cons, List.map_nil, if_true, if_false, sSeq, sBind, sAsg, sRet, sRetN, sNil, sIf, sExpr, sPar, bindE, eOp, eVar, eC, eCallB, eCall, eCons, eNil, eTup, eLst, eIf, vAnd, vOr, vNot, bAnd, bOr, bNot, asB, liftO, gVar, onlyN, List.replicate, List.append_nil, List.cons_append, List.nil_append, List.getElem?_cons_zero, List.getElem?_cons_succ, List.set_cons_zero, List.set_cons_succ, Nat.reduceAdd, Nat.reduceSub, Nat.reduceLeDiff, Bool.false_eq_true, Bool.not_true, Bool.not_false, reduceIte, Nat.reduceEqDiff, d_int, d_str, d_bl, d_non, d_tup, d_ftp, d_lst, d_fls, d_dic, d_ty, d_locL, d_locD, add_int, sub_int, mul_int, mod_int, div_int, lt_int, le_int, gt_int, ge_int, int_int, len_lst, len_tup, len_fls, idx_lst, idx_tup, idx_dicS, idx_dicI, eFld, eMeth, sFldM, gFld, gSubM, eGet2, ePop2, eChain, i_at, eq_self, l_num, l_base, l_sp, l_held, l_words, p_sp, f_len5, l_m0, l_m1, l_m2, l_m3, l_m4, l_m5, l_m6, l_m7, l_m8, l_m9, m_h, m_w, m_i, m_seth, m_setw, m_seti, look_h, look_w, d_dV, dm_h, dm_w, put_w, put_h, drop_w, eq_any, eq_out, dicOf, locDic, toKey, v_STACK, v_GOES_ON, v_OFF_STACK, v_WILD, v_MOST_WORDS, v_RETURN, v_END, Nat.reduceLT, eqs, ine, atI2_0, atI2_1, atI3_0, atI3_1, atI3_2, atI4_0, atI4_1, atI4_2, atI4_3, atI1_0, decide_true, decide_false, decide_eq_false, gEqT, in_str, isS, strIn, Bool.or_false, Bool.false_or, Bool.true_or, Bool.or_true, Bool.and_true, Bool.true_and, Bool.and_false, Bool.false_and, List.all_cons, List.all_nil, nes, is_non, is_int, eUn, neg_int, gB, bTup, bMore, bVar, bNone, Option.bind_some, st_h, st_hA, gd_any, d_out, d_any, lcF_n, lcL, sLoopF_n, sLoop, eSrc, eLc, sFor, fuelOf, wipeE, bYes, Option.map_some, Option.map_none, Option.getD_some, Option.getD_none, tup_lst, tupF_lst, dStop, hpa]
      · simp (disch := first | omega | decide | rfl | simp only [List.length_map]) only [fnM, startE, finR, List.length_cons, List.length_nil, List.map_cons, List.map_nil, if_true, if_false, sSeq, sBind, sAsg, sRet, sRetN, sNil, sIf, sExpr, sPar, bindE, eOp, eVar, eC, eCallB, eCall, eCons, eNil, eTup, eLst, eIf, vAnd, vOr, vNot, bAnd, bOr, bNot, asB, liftO, gVar, onlyN, List.replicate, List.append_nil, List.cons_append, List.nil_append, List.getElem?_cons_zero, List.getElem?_cons_succ, List.set_cons_zero, List.set_cons_succ, Nat.reduceAdd, Nat.reduceSub, Nat.reduceLeDiff, Bool.false_eq_true, Bool.not_true, Bool.not_false, reduceIte, Nat.reduceEqDiff, d_int, d_str, d_bl, d_non, d_tup, d_ftp, d_lst, d_fls, d_dic, d_ty, d_locL, d_locD, add_int, sub_int, mul_int, mod_int, div_int, lt_int, le_int, gt_int, ge_int, int_int, len_lst, len_tup, len_fls, idx_lst, idx_tup, idx_dicS, idx_dicI, eFld, eMeth, sFldM, gFld, gSubM, eGet2, ePop2, eChain, i_at, eq_self, l_num, l_base, l_sp, l_held, l_words, p_sp, f_len5, l_m0, l_m1, l_m2, l_m3, l_m4, l_m5, l_m6, l_m7, l_m8, l_m9, m_h, m_w, m_i, m_seth, m_setw, m_seti, look_h, look_w, d_dV, dm_h, dm_w, put_w, put_h, drop_w, eq_any, eq_out, dicOf, locDic, toKey, v_STACK, v_GOES_ON, v_OFF_STACK, v_WILD, v_MOST_WORDS, v_RETURN, v_END, Nat.reduceLT, eqs, ine, atI2_0, atI2_1, atI3_0, atI3_1, atI3_2, atI4_0, atI4_1, atI4_2, atI4_3, atI1_0, decide_true, decide_false, decide_eq_false, gEqT, in_str, isS, strIn, Bool.or_false, Bool.false_or, Bool.true_or, Bool.or_true, Bool.and_true, Bool.true_and, Bool.and_false, Bool.false_and, List.all_cons, List.all_nil, nes, is_non, is_int, eUn, neg_int, gB, bTup, bMore, bVar, bNone, Option.bind_some, st_h, st_hA, gd_any, d_out, d_any, lcF_n, lcL, sLoopF_n, sLoop, eSrc, eLc, sFor, fuelOf, wipeE, bYes, Option.map_some, Option.map_none, Option.getD_some, Option.getD_none, tup_lst, tupF_lst])]
    congr 1
    rw [List.filter_map, List.map_map]
    rfl
  refine ⟨[O.dic m.h.d, O.dic (Ws.d m.w), O.ins 0 (flds m.num m.base m.sp S.length)], some (.lst (((sucI code.length t i).1.filter fun u => decide (u.at_ = a)).map dStop)), ?_⟩
  · unfold pathLoop
    simp (disch := first | omega | decide | rfl | simp only [List.length_map]) only [fnM, startE, finR, List.length_cons, List.length_nil, List.map_cons, List.map_nil, if_true, if_false, sSeq, sBind, sAsg, sRet, sRetN, sNil, sIf, sExpr, sPar, bindE, eOp, eVar, eC, eCallB, eCall, eCons, eNil, eTup, eLst, eIf, vAnd, vOr, vNot, bAnd, bOr, bNot, asB, liftO, gVar, onlyN, List.replicate, List.append_nil, List.cons_append, List.nil_append, List.getElem?_cons_zero, List.getElem?_cons_succ, List.set_cons_zero, List.set_cons_succ, Nat.reduceAdd, Nat.reduceSub, Nat.reduceLeDiff, Bool.false_eq_true, Bool.not_true, Bool.not_false, reduceIte, Nat.reduceEqDiff, d_int, d_str, d_bl, d_non, d_tup, d_ftp, d_lst, d_fls, d_dic, d_ty, d_locL, d_locD, add_int, sub_int, mul_int, mod_int, div_int, lt_int, le_int, gt_int, ge_int, int_int, len_lst, len_tup, len_fls, idx_lst, idx_tup, idx_dicS, idx_dicI, eFld, eMeth, sFldM, gFld, gSubM, eGet2, ePop2, eChain, i_at, eq_self, l_num, l_base, l_sp, l_held, l_words, p_sp, f_len5, l_m0, l_m1, l_m2, l_m3, l_m4, l_m5, l_m6, l_m7, l_m8, l_m9, m_h, m_w, m_i, m_seth, m_setw, m_seti, look_h, look_w, d_dV, dm_h, dm_w, put_w, put_h, drop_w, eq_any, eq_out, dicOf, locDic, toKey, v_STACK, v_GOES_ON, v_OFF_STACK, v_WILD, v_MOST_WORDS, v_RETURN, v_END, Nat.reduceLT, eqs, ine, atI2_0, atI2_1, atI3_0, atI3_1, atI3_2, atI4_0, atI4_1, atI4_2, atI4_3, atI1_0, decide_true, decide_false, decide_eq_false, gEqT, in_str, isS, strIn, Bool.or_false, Bool.false_or, Bool.true_or, Bool.or_true, Bool.and_true, Bool.true_and, Bool.and_false, Bool.false_and, List.all_cons, List.all_nil, nes, is_non, is_int, eUn, neg_int, gB, bTup, bMore, bVar, bNone, Option.bind_some, st_h, st_hA, gd_any, d_out, d_any, lcF_n, lcL, sLoopF_n, sLoop, eSrc, eLc, sFor, fuelOf, wipeE, bYes, Option.map_some, Option.map_none, Option.getD_some, Option.getD_none, tup_lst, tupF_lst, hs, hk, hlc, heq, hat, hd, List.length_map, is_integer_eq, g1, g2, hpa]
    rfl
theorem stop_loop {code : List Ins} (hc : OkCode code) {path : List Int} : ∀ (l : List Int) (k : Nat) (t t' : Stp) (x3 x4 : Option D) (S : Sto), path.drop k = l → runP code l t = some t' → GoodS t →
    ∃ T y3 y4, sLoop (gB (bVar 3)) pathLoop (rngD k l.length) [some (dC code), some (.tup (path.map .int)), some (dStop t), x3, x4, none] S = .nx [some (dC code), some (.tup (path.map .int)), some (dStop t'), y3, y4, none] (S ++ T) ∧ GoodS t'
  | [], k, t, t', x3, x4, S, _, h, g => by
    cases h
    exact ⟨[], x3, x4, by rw [List.append_nil]; rfl, g⟩
  | a :: l, k, t, t', x3, x4, S, hp, h, g => by
    have ha : path[k]? = some a := by rw [← List.head?_drop, hp]; rfl
    have hp' : path.drop (k + 1) = l := by rw [← List.tail_drop, hp]; rfl
    simp only [runP] at h
    cases hi : code[t.at_.toNat]? with
    | none => rw [hi] at h; cases h
    | some i =>
      rw [hi] at h
      simp only at h
      cases hu : (sucI code.length t i).1.find? fun u => decide (u.at_ = a) with
      | none => rw [hu] at h; cases h
      | some u =>
        rw [hu] at h
        simp only at h
        obtain ⟨T1, y4, e1⟩ := stop_step (S := S) hc ha g hi hu x4
        have gu : GoodS u := (suc_good g (hc.ok i (List.mem_of_getElem? hi)) u (List.mem_of_find?_eq_some hu)).1
        obtain ⟨T2, z3, z4, e2, g2⟩ := stop_loop hc l (k + 1) u t' (some (.int k)) y4 (S ++ T1) hp' h gu
        refine ⟨T1 ++ T2, z3, z4, ?_, g2⟩
        have e : rngD (k : Int) (l.length + 1) = .int k :: rngD ((k + 1 : Nat) : Int) l.length := by
          unfold rngD
          rw [List.range_succ_eq_map, List.map_cons, List.map_map]
          congr 1
          refine List.map_congr_left fun i _ => ?_
          simp only [Function.comp_def, Nat.succ_eq_add_one]
          congr 1
          omega
        rw [List.length_cons, e]
        simp only [sLoop, gB, bVar, List.set_cons_succ, List.set_cons_zero]
        rw [e1]
        simp only
        rw [e2, List.append_assoc]
theorem rng_path {n : Nat} (hl : n < 100000) : rng2 [.int 1, .int ((n : Int) + 1)] = some (1, n) := by
  rw [rng2_of (by decide) (by omega), show ((n : Int) + 1 - 1).toNat = n by omega]
def pathFor : SM := (sFor (eRng rng2 (eCons (eC (.int 1)) (eCons (eCallB gLen (eCons (eVar 1) (eNil))) (eNil)))) (gB (bVar 3)) pathLoop)
theorem stop_at_eq {code : List Ins} (hc : OkCode code) {l : List Int} {t : Stp} (hl : l.length < 100000) (h : runP code l st0 = some t) : ∃ T, f_q_stop_at [dC code, .tup ((0 :: l).map .int)] S = .ok (dStop t) (S ++ T) ∧ GoodS t := by
  obtain ⟨T, y3, y4, e, g⟩ := stop_loop hc (path := 0 :: l) l 1 st0 t none none (ms S m0) rfl h good0
  have g1 : decide ((0 : Int) ≤ 0) = true := rfl
  have r2 := rng_path (n := l.length) hl
  have hln : (((l.map D.int).length + 1 : Nat) : Int) = (l.length : Int) + 1 := by simp
  have hz : decide ((l.length : Int) + 1 = 0) = false := decide_eq_false (by omega)
  have e' : sLoop (gB (bVar 3)) pathLoop (rngD 1 l.length) [some (dC code), some (.tup (.int 0 :: l.map .int)), some (dStop st0), none, none, none] (ms S m0) = .nx [some (dC code), some (.tup (.int 0 :: l.map .int)), some (dStop t), y3, y4, none] (ms S m0 ++ T) := e
  refine ⟨[O.dic m0.h.d, O.dic (Ws.d m0.w), O.ins 0 (flds m0.num m0.base m0.sp S.length)] ++ T, ?_, g⟩
  have hi : atI (D.int 0 :: l.map D.int) 0 = some (.int 0) := at0
  have hms : ms S m0 ++ T = S ++ ([O.dic m0.h.d, O.dic (Ws.d m0.w), O.ins 0 (flds m0.num m0.base m0.sp S.length)] ++ T) := by
    simp [ms, mst]
  have s4 : pathFor [some (dC code), some (.tup (.int 0 :: l.map .int)), some (dStop st0), none, none, none] (ms S m0) = .nx [some (dC code), some (.tup (.int 0 :: l.map .int)), some (dStop t), y3, y4, none] (ms S m0 ++ T) := by
    unfold pathFor
    rw [sFor_st (eRng_of (S' := ms S m0) (m := eCons (eC (.int 1)) (eCons (eCallB gLen (eCons (eVar 1) (eNil))) (eNil))) (by simp (disch := omega) only [fnM, startE, finR, List.length_cons, List.length_nil, List.map_cons, List.map_nil, if_true, if_false, sSeq, sBind, sAsg, sRet, sRetN, sNil, sIf, sExpr, sPar, bindE, eOp, eVar, eC, eCallB, eCall, eCons, eNil, eTup, eLst, eIf, vAnd, vOr, vNot, bAnd, bOr, bNot, asB, liftO, gVar, onlyN, List.replicate, List.append_nil, List.cons_append, List.nil_append, List.getElem?_cons_zero, List.getElem?_cons_succ, List.set_cons_zero, List.set_cons_succ, Nat.reduceAdd, Nat.reduceSub, Nat.reduceLeDiff, Bool.false_eq_true, Bool.not_true, Bool.not_false, reduceIte, Nat.reduceEqDiff, d_int, d_str, d_bl, d_non, d_tup, d_ftp, d_lst, d_fls, d_dic, d_ty, d_locL, d_locD, add_int, sub_int, mul_int, mod_int, div_int, lt_int, le_int, gt_int, ge_int, int_int, len_lst, len_tup, len_fls, idx_lst, idx_tup, idx_dicS, idx_dicI, eFld, eMeth, sFldM, gFld, gSubM, eGet2, ePop2, eChain, i_at, eq_self, l_num, l_base, l_sp, l_held, l_words, p_sp, f_len5, l_m0, l_m1, l_m2, l_m3, l_m4, l_m5, l_m6, l_m7, l_m8, l_m9, m_h, m_w, m_i, m_seth, m_setw, m_seti, look_h, look_w, d_dV, dm_h, dm_w, put_w, put_h, drop_w, eq_any, eq_out, dicOf, locDic, toKey, v_STACK, v_GOES_ON, v_OFF_STACK, v_WILD, v_MOST_WORDS, v_RETURN, v_END, Nat.reduceLT, eqs, ine, hln]) r2)]
    exact e'
  have hb : b_q_stop_at = sSeq (sIf (bOr (bNot (asB (eCallB gIsi (eCons (eVar 1) (eCons (eC (.ty "tuple")) (eNil)))))) (asB (eOp gEq (eCallB gLen (eCons (eVar 1) (eNil))) (eC (.int 0))))) ((fun _ _ => .bad)) (sNil)) (sSeq (sIf (bNot (asB (eCall f_q_is_integer (eCons (eOp gIdx (eVar 1) (eC (.int 0))) (eCons (eC (.int 0)) (eCons (eC (.int 0)) (eNil))))))) ((fun _ _ => .bad)) (sNil)) (sSeq (sAsg (eCall f_q_first_stop (eNil)) (gVar 2)) (sSeq pathFor (sRet (eVar 2))))) := rfl
  unfold f_q_stop_at
  rw [hb]
  simp (disch := omega) only [fnM, startE, finR, List.length_cons, List.length_nil, List.map_cons, List.map_nil, if_true, if_false, sSeq, sBind, sAsg, sRet, sRetN, sNil, sIf, sExpr, sPar, bindE, eOp, eVar, eC, eCallB, eCall, eCons, eNil, eTup, eLst, eIf, vAnd, vOr, vNot, bAnd, bOr, bNot, asB, liftO, gVar, onlyN, List.replicate, List.append_nil, List.cons_append, List.nil_append, List.getElem?_cons_zero, List.getElem?_cons_succ, List.set_cons_zero, List.set_cons_succ, Nat.reduceAdd, Nat.reduceSub, Nat.reduceLeDiff, Bool.false_eq_true, Bool.not_true, Bool.not_false, reduceIte, Nat.reduceEqDiff, d_int, d_str, d_bl, d_non, d_tup, d_ftp, d_lst, d_fls, d_dic, d_ty, d_locL, d_locD, add_int, sub_int, mul_int, mod_int, div_int, lt_int, le_int, gt_int, ge_int, int_int, len_lst, len_tup, len_fls, idx_lst, idx_tup, idx_dicS, idx_dicI, eFld, eMeth, sFldM, gFld, gSubM, eGet2, ePop2, eChain, i_at, eq_self, l_num, l_base, l_sp, l_held, l_words, p_sp, f_len5, l_m0, l_m1, l_m2, l_m3, l_m4, l_m5, l_m6, l_m7, l_m8, l_m9, m_h, m_w, m_i, m_seth, m_setw, m_seti, look_h, look_w, d_dV, dm_h, dm_w, put_w, put_h, drop_w, eq_any, eq_out, dicOf, locDic, toKey, v_STACK, v_GOES_ON, v_OFF_STACK, v_WILD, v_MOST_WORDS, v_RETURN, v_END, Nat.reduceLT, eqs, ine, isi_tt, hln, hz, hi, is_integer_eq, g1, Bool.and_self, first_stop_eq, s4, hms]
theorem run_eq {code : List Ins} (hc : OkCode code) {l : List Int} {t : Stp} (hl : l.length < 100000) (h : runP code l st0 = some t) : ∃ T, f_q_run [dC code, .tup ((0 :: l).map .int)] S = .ok (dStop t) (S ++ T) ∧ GoodS t := by
  obtain ⟨T, e, g⟩ := stop_at_eq (S := S) hc hl h
  refine ⟨T, ?_, g⟩
  have hn := need_code_eq (S := S) hc
  have e2 : f_q_stop_at [dC code, .tup (.int 0 :: l.map .int)] S = .ok (dStop t) (S ++ T) := e
  simp (disch := omega) only [fnM, startE, finR, List.length_cons, List.length_nil, List.map_cons, List.map_nil, if_true, if_false, sSeq, sBind, sAsg, sRet, sRetN, sNil, sIf, sExpr, sPar, bindE, eOp, eVar, eC, eCallB, eCall, eCons, eNil, eTup, eLst, eIf, vAnd, vOr, vNot, bAnd, bOr, bNot, asB, liftO, gVar, onlyN, List.replicate, List.append_nil, List.cons_append, List.nil_append, List.getElem?_cons_zero, List.getElem?_cons_succ, List.set_cons_zero, List.set_cons_succ, Nat.reduceAdd, Nat.reduceSub, Nat.reduceLeDiff, Bool.false_eq_true, Bool.not_true, Bool.not_false, reduceIte, Nat.reduceEqDiff, d_int, d_str, d_bl, d_non, d_tup, d_ftp, d_lst, d_fls, d_dic, d_ty, d_locL, d_locD, add_int, sub_int, mul_int, mod_int, div_int, lt_int, le_int, gt_int, ge_int, int_int, len_lst, len_tup, len_fls, idx_lst, idx_tup, idx_dicS, idx_dicI, f_q_run, b_q_run, hn, e2]
end
end U
set_option Elab.async false
set_option linter.all false
set_option maxRecDepth 100000
set_option maxHeartbeats 4000000
namespace U
open PySem Sh L2
/-! ### the draws -/
def mix (c k : Int) : Int := (c % 2147483647 * (48271 + 2 * k * k) + 69621 * k + 11) % 2147483647 * 69621 % 2147483629
theorem mix_lo (c k : Int) : 0 ≤ mix c k := Int.emod_nonneg _ (by decide)
theorem mix_hi (c k : Int) : mix c k < 2147483629 := Int.emod_lt_of_pos _ (by decide)
theorem mixed_eq (c k : Int) (S : Sto) (h0 : 0 ≤ k) (h1 : k < 1000000000) : f_p_law_mixed [.int c, .int k] S = .ok (.int (mix c k)) S := by
  simp (disch := omega) only [fnM, startE, finR, List.length_cons, List.length_nil, List.map_cons, List.map_nil, if_true, if_false, sSeq, sBind, sAsg, sRet, sRetN, sNil, sIf, sExpr, sPar, bindE, eOp, eVar, eC, eCallB, eCall, eCons, eNil, eTup, eLst, eIf, vAnd, vOr, vNot, bAnd, bOr, bNot, asB, liftO, gVar, onlyN, List.replicate, List.append_nil, List.cons_append, List.nil_append, List.getElem?_cons_zero, List.getElem?_cons_succ, List.set_cons_zero, List.set_cons_succ, Nat.reduceAdd, Nat.reduceSub, Nat.reduceLeDiff, Bool.false_eq_true, Bool.not_true, Bool.not_false, reduceIte, Nat.reduceEqDiff, d_int, d_str, d_bl, d_non, d_tup, d_ftp, d_lst, d_fls, d_dic, d_ty, d_locL, d_locD, add_int, sub_int, mul_int, mod_int, div_int, lt_int, le_int, gt_int, ge_int, int_int, len_lst, len_tup, len_fls, idx_lst, idx_tup, idx_dicS, idx_dicI, f_p_law_mixed, b_p_law_mixed]
  rfl
def stt (cells : List Int) (at_ : Int) : List (Key × D) := [(.inr "cells", .lst (cells.map .int)), (.inr "lefts", .loc 0), (.inr "at", .int at_)]
def wf (cells lefts : List Int) (at_ : Int) (rest : Sto) : Sto := .lst (lefts.map .int) :: .dic (stt cells at_) :: rest
section
variable {cells lefts : List Int} {at_ b : Int} {rest : Sto} {e : Sh.Env}
theorem wf_st : deref (wf cells lefts at_ rest) (.loc 1) = .dic (stt cells at_) := rfl
theorem wf_lf : deref (wf cells lefts at_ rest) (.loc 0) = .lst (lefts.map .int) := rfl
theorem lk_at : dLook (stt cells at_) (.inr "at") = some (.int at_) := by rfl
theorem lk_ce : dLook (stt cells at_) (.inr "cells") = some (.lst (cells.map .int)) := by rfl
theorem lk_le : dLook (stt cells at_) (.inr "lefts") = some (.loc 0) := by rfl
theorem pt_at : stIx (wf cells lefts at_ rest) e (.loc 1) (.str "at") (.int b) = .nx e (wf cells lefts b rest) := by rfl
theorem at_int {xs : List Int} {i : Int} (h0 : 0 ≤ i) (h1 : i < xs.length) : atI (xs.map D.int) i = some (.int (xs.getD i.toNat 0)) := by
  have hl : i.toNat < xs.length := by omega
  unfold atI ixN
  rw [if_pos h0, List.length_map, if_pos h1]
  simp [List.getElem?_eq_getElem hl]
theorem pt_lf {i : Int} (h0 : 0 ≤ i) (h1 : i < lefts.length) : stIx (wf cells lefts at_ rest) e (.loc 0) (.int i) (.int b) = .nx e (wf cells (lefts.set i.toNat b) at_ rest) := by
  have hx : ixN (lefts.map D.int).length i = some i.toNat := by
    unfold ixN; rw [if_pos h0, List.length_map, if_pos h1]
  show (match ixN (lefts.map D.int).length i with
        | some n => RS.nx e ((wf cells lefts at_ rest).set 0 (.lst ((lefts.map D.int).set n (.int b))))
        | none => .bad) = _
  rw [hx]
  simp only [wf, List.set_cons_zero, List.map_set]
end
/-- what is drawn -/
theorem draw_eq {cells lefts : List Int} {at_ many : Int} {rest : Sto} (hc : 0 < cells.length) (hl : lefts.length = cells.length) (a0 : 0 ≤ at_) (a1 : at_ < 1000000) (m0 : 0 < many) (m1 : many < 1073741824) :
    ∃ r lefts', 0 ≤ r ∧ r < many ∧ lefts'.length = cells.length ∧ f_p_law_draw [.loc 1, .int many] (wf cells lefts at_ rest) = .ok (.int r) (wf cells lefts' (at_ + 1) rest) := by
  have p0 : 0 ≤ at_ % (cells.length : Int) := Int.emod_nonneg _ (by omega)
  have p1 : at_ % (cells.length : Int) < cells.length := Int.emod_lt_of_pos _ (by omega)
  have hcl : (0 : Int) < (cells.length : Int) := by omega
  have p2 : at_ % (cells.length : Int) < lefts.length := by omega
  have q1 := at_int (xs := cells) p0 p1
  have q2 := at_int (xs := lefts) p0 p2
  by_cases hp : 0 < lefts.getD (at_ % (cells.length : Int)).toNat 0
  · refine ⟨lefts.getD (at_ % (cells.length : Int)).toNat 0 % many, lefts.set (at_ % (cells.length : Int)).toNat (lefts.getD (at_ % (cells.length : Int)).toNat 0 / many), Int.emod_nonneg _ (by omega), Int.emod_lt_of_pos _ m0, by simp [hl], ?_⟩
    simp (disch := omega) only [fnM, startE, finR, List.length_cons, List.length_nil, List.map_cons, List.map_nil, if_true, if_false, sSeq, sBind, sAsg, sRet, sRetN, sNil, sIf, sExpr, sPar, bindE, eOp, eVar, eC, eCallB, eCall, eCons, eNil, eTup, eLst, eIf, vAnd, vOr, vNot, bAnd, bOr, bNot, asB, liftO, gVar, onlyN, List.replicate, List.append_nil, List.cons_append, List.nil_append, List.getElem?_cons_zero, List.getElem?_cons_succ, List.set_cons_zero, List.set_cons_succ, Nat.reduceAdd, Nat.reduceSub, Nat.reduceLeDiff, Bool.false_eq_true, Bool.not_true, Bool.not_false, reduceIte, Nat.reduceEqDiff, d_int, d_str, d_bl, d_non, d_tup, d_ftp, d_lst, d_fls, d_dic, d_ty, d_locL, d_locD, add_int, sub_int, mul_int, mod_int, div_int, lt_int, le_int, gt_int, ge_int, int_int, len_lst, len_tup, len_fls, idx_lst, idx_tup, idx_dicS, idx_dicI, f_p_law_draw, b_p_law_draw, wf_st, wf_lf, lk_at, lk_ce, lk_le, pt_at, gSubM, q1, q2, List.length_map, hp, decide_true, pt_lf]
  · refine ⟨(mix (mix (cells.getD (at_ % (cells.length : Int)).toNat 0) at_) (40 + at_) * 2147483647 + mix (mix (mix (cells.getD (at_ % (cells.length : Int)).toNat 0) at_) (40 + at_)) (7 + at_)) / 64 % many, lefts, Int.emod_nonneg _ (by omega), Int.emod_lt_of_pos _ m0, hl, ?_⟩
    have e0 := mix_lo (mix (cells.getD (at_ % (cells.length : Int)).toNat 0) at_) (40 + at_)
    have e1 := mix_hi (mix (cells.getD (at_ % (cells.length : Int)).toNat 0) at_) (40 + at_)
    simp (disch := omega) only [fnM, startE, finR, List.length_cons, List.length_nil, List.map_cons, List.map_nil, if_true, if_false, sSeq, sBind, sAsg, sRet, sRetN, sNil, sIf, sExpr, sPar, bindE, eOp, eVar, eC, eCallB, eCall, eCons, eNil, eTup, eLst, eIf, vAnd, vOr, vNot, bAnd, bOr, bNot, asB, liftO, gVar, onlyN, List.replicate, List.append_nil, List.cons_append, List.nil_append, List.getElem?_cons_zero, List.getElem?_cons_succ, List.set_cons_zero, List.set_cons_succ, Nat.reduceAdd, Nat.reduceSub, Nat.reduceLeDiff, Bool.false_eq_true, Bool.not_true, Bool.not_false, reduceIte, Nat.reduceEqDiff, d_int, d_str, d_bl, d_non, d_tup, d_ftp, d_lst, d_fls, d_dic, d_ty, d_locL, d_locD, add_int, sub_int, mul_int, mod_int, div_int, lt_int, le_int, gt_int, ge_int, int_int, len_lst, len_tup, len_fls, idx_lst, idx_tup, idx_dicS, idx_dicI, f_p_law_draw, b_p_law_draw, wf_st, wf_lf, lk_at, lk_ce, lk_le, pt_at, gSubM, q1, q2, List.length_map, hp, decide_false, mixed_eq]
end U
set_option Elab.async false
set_option linter.all false
set_option maxRecDepth 100000
set_option maxHeartbeats 4000000
namespace U
open PySem Sh L2
/-! ### the law's state: what is drawn from it -/
/-- the store begins with the state, drawn from at_ times -/
def LS (at_ : Int) (rest S : Sto) : Prop := ∃ cells lefts : List Int, 0 < cells.length ∧ lefts.length = cells.length ∧ S = wf cells lefts at_ rest
theorem LS.draw {at_ many : Int} {rest S : Sto} (h : LS at_ rest S) (a0 : 0 ≤ at_) (a1 : at_ < 1000000) (m0 : 0 < many) (m1 : many < 1073741824) :
    ∃ r S', 0 ≤ r ∧ r < many ∧ LS (at_ + 1) rest S' ∧ f_p_law_draw [.loc 1, .int many] S = .ok (.int r) S' := by
  obtain ⟨cells, lefts, hc, hl, rfl⟩ := h
  obtain ⟨r, lefts', r0, r1, hl', e⟩ := draw_eq (rest := rest) hc hl a0 a1 m0 m1
  exact ⟨r, _, r0, r1, ⟨cells, lefts', hc, hl', rfl⟩, e⟩
theorem LS.more {at_ : Int} {rest S : Sto} (h : LS at_ rest S) (T : Sto) : LS at_ (rest ++ T) (S ++ T) := by
  obtain ⟨cells, lefts, hc, hl, rfl⟩ := h
  exact ⟨cells, lefts, hc, hl, rfl⟩
theorem LS.d1 {at_ : Int} {rest S : Sto} (h : LS at_ rest S) : ∃ kv, deref S (.loc 1) = .dic kv := by
  obtain ⟨cells, lefts, hc, hl, rfl⟩ := h
  exact ⟨_, wf_st⟩
theorem LS.at {at_ : Int} {rest S : Sto} (h : LS at_ rest S) (i : Nat) : S[i + 2]? = rest[i]? := by
  obtain ⟨cells, lefts, hc, hl, rfl⟩ := h
  rfl
theorem LS.len {at_ : Int} {rest S : Sto} (h : LS at_ rest S) : S.length = rest.length + 2 := by
  obtain ⟨cells, lefts, hc, hl, rfl⟩ := h
  rfl
/-- one of a list -/
theorem LS.of_lst {at_ : Int} {rest S : Sto} {xs : List D} (h : LS at_ rest S) (a0 : 0 ≤ at_) (a1 : at_ < 1000000) (m0 : 0 < xs.length) (m1 : xs.length < 100000) :
    ∃ x S', x ∈ xs ∧ LS (at_ + 1) rest S' ∧ f_p_law_of [.loc 1, .lst xs] S = .ok x S' := by
  obtain ⟨r, S', r0, r1, h', e⟩ := h.draw a0 a1 (many := xs.length) (by omega) (by omega)
  have hr : r.toNat < xs.length := by omega
  refine ⟨xs[r.toNat], S', List.getElem_mem hr, h', ?_⟩
  have ha : atI xs r = some xs[r.toNat] := by
    unfold atI ixN
    rw [if_pos r0, if_pos r1]
    simp [List.getElem?_eq_getElem hr]
  simp (disch := omega) only [fnM, startE, finR, List.length_cons, List.length_nil, List.map_cons, List.map_nil, if_true, if_false, sSeq, sBind, sAsg, sRet, sRetN, sNil, sIf, sExpr, sPar, bindE, eOp, eVar, eC, eCallB, eCall, eCons, eNil, eTup, eLst, eIf, vAnd, vOr, vNot, bAnd, bOr, bNot, asB, liftO, gVar, onlyN, List.replicate, List.append_nil, List.cons_append, List.nil_append, List.getElem?_cons_zero, List.getElem?_cons_succ, List.set_cons_zero, List.set_cons_succ, Nat.reduceAdd, Nat.reduceSub, Nat.reduceLeDiff, Bool.false_eq_true, Bool.not_true, Bool.not_false, reduceIte, Nat.reduceEqDiff, d_int, d_str, d_bl, d_non, d_tup, d_ftp, d_lst, d_fls, d_dic, d_ty, d_locL, d_locD, add_int, sub_int, mul_int, mod_int, div_int, lt_int, le_int, gt_int, ge_int, int_int, len_lst, len_tup, len_fls, idx_lst, idx_tup, idx_dicS, idx_dicI, f_p_law_of, b_p_law_of, e, ha]
theorem LS.of_str {at_ : Int} {rest S : Sto} {x : Str} (h : LS at_ rest S) (a0 : 0 ≤ at_) (a1 : at_ < 1000000) (m0 : 0 < x.length) (m1 : x.length < 100000) :
    ∃ c S', c ∈ x.cps.toList ∧ LS (at_ + 1) rest S' ∧ f_p_law_of [.loc 1, .str x] S = .ok (.str ⟨#[c]⟩) S' := by
  obtain ⟨r, S', r0, r1, h', e⟩ := h.draw a0 a1 (many := x.length) (by omega) (by omega)
  have hx : x.length = x.cps.toList.length := by simp [Str.length]
  have hr : r.toNat < x.cps.toList.length := by omega
  refine ⟨x.cps.toList[r.toNat], S', List.getElem_mem hr, h', ?_⟩
  have ha : atI x.cps.toList r = some x.cps.toList[r.toNat] := by
    unfold atI ixN
    rw [if_pos r0, if_pos (by omega)]
    simp [List.getElem?_eq_getElem hr]
  have hl : gLen [.str x] = some (.int x.length) := by
    show (if x.length ≤ cap then some (D.int x.length) else none) = _
    rw [if_pos (Nat.le_of_lt m1)]
  have hi : gIdx (.str x) (.int r) = some (.str ⟨#[x.cps.toList[r.toNat]]⟩) := by
    show (if x.length ≤ cap then (atI x.cps.toList r).map (fun c => D.str ⟨#[c]⟩) else none) = _
    rw [if_pos (Nat.le_of_lt m1), ha]; rfl
  simp (disch := omega) only [fnM, startE, finR, List.length_cons, List.length_nil, List.map_cons, List.map_nil, if_true, if_false, sSeq, sBind, sAsg, sRet, sRetN, sNil, sIf, sExpr, sPar, bindE, eOp, eVar, eC, eCallB, eCall, eCons, eNil, eTup, eLst, eIf, vAnd, vOr, vNot, bAnd, bOr, bNot, asB, liftO, gVar, onlyN, List.replicate, List.append_nil, List.cons_append, List.nil_append, List.getElem?_cons_zero, List.getElem?_cons_succ, List.set_cons_zero, List.set_cons_succ, Nat.reduceAdd, Nat.reduceSub, Nat.reduceLeDiff, Bool.false_eq_true, Bool.not_true, Bool.not_false, reduceIte, Nat.reduceEqDiff, d_int, d_str, d_bl, d_non, d_tup, d_ftp, d_lst, d_fls, d_dic, d_ty, d_locL, d_locD, add_int, sub_int, mul_int, mod_int, div_int, lt_int, le_int, gt_int, ge_int, int_int, len_lst, len_tup, len_fls, idx_lst, idx_tup, idx_dicS, idx_dicI, f_p_law_of, b_p_law_of, e, hl, hi]
/-! ### the begin -/
theorem toPys_int (l : List Int) : toPys (l.map D.int) = some (l.map PyData.int) := by
  induction l with
  | nil => rfl
  | cons x r ih => simp only [List.map_cons, toPys, toPy, ih]
theorem lay_ints (l : List Int) : SeqAt.shaped (.list (l.map PyData.int)) = true := by
  have h1 : PyData.canLayAll0 (l.map PyData.int) = true := by
    induction l with
    | nil => rfl
    | cons x r ih => simp only [List.map_cons, PyData.canLayAll0, ih, PyData.canLay0, Bool.and_self]
  have h2 : PyData.depthAll (l.map PyData.int) = 0 := by
    clear h1
    induction l with
    | nil => rfl
    | cons x r ih => simp only [List.map_cons, PyData.depthAll, PyData.depth]; rw [ih]; rfl
  simp only [SeqAt.shaped, PyData.canLay0, h1, PyData.depth, h2]
  rfl
theorem ne_nilF (l : List Int) : gNe (.fls (l.map D.int)) (.lst []) = some (.bl (!l.isEmpty)) := by
  have h1 : toPy (.fls (l.map D.int)) = some (.list (l.map PyData.int)) := by simp [toPy, toPys_int]
  have h2 : toPy (.lst []) = some (.list []) := rfl
  have h3 : SeqAt.shaped (.list []) = true := by rfl
  show (match toPy (.fls (l.map D.int)), toPy (.lst []) with
    | some p, some q => if SeqAt.shaped p = true ∧ SeqAt.shaped q = true then some (D.bl (true ^^ PyData.eqv p q)) else none
    | _, _ => none) = _
  rw [h1, h2]
  simp only [lay_ints, h3, and_self, if_true]
  cases l <;> rfl
def leftOf (c : Int) : Int := if 10 ^ 18 ≤ c then c else 0
theorem begin_eq (ns : List Int) (hn : ns.length ≤ 63) : ∃ S, f_p_law_begin [.fls (ns.map .int)] [] = .ok (.loc 1) S ∧ LS 0 [] S := by
  have hl : ∀ l : List Int, gList [.fls (l.map D.int)] = some (.lst (l.map D.int)) := fun _ => rfl
  have hp : gPow (.int 10) (.int 18) = some (.int (10 ^ 18)) := rfl
  have key : ∀ (cells : List Int) (e : Sh.Env) (x : Option D), cells.length ≤ 63 → lcF (bVar 2) bYes (eIf (asB (eOp gGe (eVar 2) (eOp gPow (eC (.int 10)) (eC (.int 18))))) (eVar 2) (eC (.int 0))) [x, some (.lst (cells.map .int)), none] ((cells.map D.int).length + 1) (.st (cells.map D.int)) 0 [] = .ok ((cells.map leftOf).map .int) [] := by
    intro cells e x hc
    rw [lcF_0, lcL_pure (fun _ => true) (fun d => match d with | .int c => .int (leftOf c) | d => d) (fun d hd => by
      obtain ⟨c, _, rfl⟩ := List.mem_map.mp hd
      refine ⟨_, rfl, rfl, fun _ => ?_⟩
      by_cases q : (10 : Int) ^ 18 ≤ c
      · simp (disch := omega) only [fnM, startE, finR, List.length_cons, List.length_nil, List.map_cons, List.map_nil, if_true, if_false, sSeq, sBind, sAsg, sRet, sRetN, sNil, sIf, sExpr, sPar, bindE, eOp, eVar, eC, eCallB, eCall, eCons, eNil, eTup, eLst, eIf, vAnd, vOr, vNot, bAnd, bOr, bNot, asB, liftO, gVar, onlyN, List.replicate, List.append_nil, List.cons_append, List.nil_append, List.getElem?_cons_zero, List.getElem?_cons_succ, List.set_cons_zero, List.set_cons_succ, Nat.reduceAdd, Nat.reduceSub, Nat.reduceLeDiff, Bool.false_eq_true, Bool.not_true, Bool.not_false, reduceIte, Nat.reduceEqDiff, d_int, d_str, d_bl, d_non, d_tup, d_ftp, d_lst, d_fls, d_dic, d_ty, d_locL, d_locD, add_int, sub_int, mul_int, mod_int, div_int, lt_int, le_int, gt_int, ge_int, int_int, len_lst, len_tup, len_fls, idx_lst, idx_tup, idx_dicS, idx_dicI, hp, q, decide_true, leftOf]
      · simp (disch := omega) only [fnM, startE, finR, List.length_cons, List.length_nil, List.map_cons, List.map_nil, if_true, if_false, sSeq, sBind, sAsg, sRet, sRetN, sNil, sIf, sExpr, sPar, bindE, eOp, eVar, eC, eCallB, eCall, eCons, eNil, eTup, eLst, eIf, vAnd, vOr, vNot, bAnd, bOr, bNot, asB, liftO, gVar, onlyN, List.replicate, List.append_nil, List.cons_append, List.nil_append, List.getElem?_cons_zero, List.getElem?_cons_succ, List.set_cons_zero, List.set_cons_succ, Nat.reduceAdd, Nat.reduceSub, Nat.reduceLeDiff, Bool.false_eq_true, Bool.not_true, Bool.not_false, reduceIte, Nat.reduceEqDiff, d_int, d_str, d_bl, d_non, d_tup, d_ftp, d_lst, d_fls, d_dic, d_ty, d_locL, d_locD, add_int, sub_int, mul_int, mod_int, div_int, lt_int, le_int, gt_int, ge_int, int_int, len_lst, len_tup, len_fls, idx_lst, idx_tup, idx_dicS, idx_dicI, hp, q, decide_false, leftOf])]
    congr 1
    rw [List.filter_eq_self.mpr fun _ _ => rfl, List.map_map, List.map_map]
    rfl
  have fin : ∀ cells : List Int, 0 < cells.length → LS 0 [] ([.lst ((cells.map leftOf).map .int)] ++ [.dic (mergeD [] [(.inr "cells", .lst (cells.map .int)), (.inr "lefts", .loc 0), (.inr "at", .int 0)])]) := fun cells hc => ⟨cells, cells.map leftOf, hc, by simp, rfl⟩
  cases ns with
  | nil =>
    refine ⟨_, ?_, fin [0] (by decide)⟩
    have k0 := key [0] [] (some (.fls [])) (by decide)
    have h0 := ne_nilF []
    simp only [List.map_nil, List.isEmpty_nil, Bool.not_true] at h0
    rfl
  | cons a r =>
    refine ⟨_, ?_, fin (a :: r) (by simp)⟩
    have k0 := key (a :: r) [] (some (.fls ((a :: r).map .int))) hn
    have h0 := ne_nilF (a :: r)
    have hf : ((a :: r).map D.int).length + 1 ≤ 200000 := by simp only [List.length_map]; omega
    generalize hz : (a :: r).map D.int = zs at *
    have hlz : gList [.fls zs] = some (.lst zs) := rfl
    have h0' : gNe (.fls zs) (.lst []) = some (.bl true) := h0
    simp (disch := omega) only [fnM, startE, finR, List.length_cons, List.length_nil, List.map_cons, List.map_nil, if_true, if_false, sSeq, sBind, sAsg, sRet, sRetN, sNil, sIf, sExpr, sPar, bindE, eOp, eVar, eC, eCallB, eCall, eCons, eNil, eTup, eLst, eIf, vAnd, vOr, vNot, bAnd, bOr, bNot, asB, liftO, gVar, onlyN, List.replicate, List.append_nil, List.cons_append, List.nil_append, List.getElem?_cons_zero, List.getElem?_cons_succ, List.set_cons_zero, List.set_cons_succ, Nat.reduceAdd, Nat.reduceSub, Nat.reduceLeDiff, Bool.false_eq_true, Bool.not_true, Bool.not_false, reduceIte, Nat.reduceEqDiff, d_int, d_str, d_bl, d_non, d_tup, d_ftp, d_lst, d_fls, d_dic, d_ty, d_locL, d_locD, add_int, sub_int, mul_int, mod_int, div_int, lt_int, le_int, gt_int, ge_int, int_int, len_lst, len_tup, len_fls, idx_lst, idx_tup, idx_dicS, idx_dicI, f_p_law_begin, b_p_law_begin, h0', hlz, eDicN, ePCons, ePNil, eLcN, eSrc, fuelOf, wipeE, hf, k0, toKey]
end U
set_option Elab.async false
set_option linter.all false
set_option maxRecDepth 100000
set_option maxHeartbeats 4000000
namespace U
open PySem Sh L2
def ups (n : Nat) : List Int := (List.range n).map fun (i : Nat) => (i : Int) + 1
theorem rng_ups (n : Nat) : rngD 0 ((n : Int) + 1).toNat = (0 :: ups n).map .int := by
  have h : ((n : Int) + 1).toNat = n + 1 := by omega
  rw [h]
  simp only [rngD, ups, List.range_succ_eq_map, List.map_cons, List.map_map]
  congr 1
  refine List.map_congr_left fun i _ => ?_
  simp only [Function.comp_def, Nat.succ_eq_add_one]
  congr 1
  omega
theorem dI_eq (c : List Ins) : (c.map dI ++ [.tup [.str "return"]]) = (c ++ [Ins.ret]).map dI := by
  simp [List.map_append]; rfl
theorem reg_of {c : Nat} (h : c ∈ ("pqrsxy" : Str).cps.toList) : ∃ g : Rg, (⟨#[c]⟩ : Str) = g.n := by
  have h' : c ∈ [112, 113, 114, 115, 120, 121] := h
  simp only [List.mem_cons, List.not_mem_nil, or_false] at h'
  rcases h' with rfl | rfl | rfl | rfl | rfl | rfl
  · exact ⟨.p, rfl⟩
  · exact ⟨.q, rfl⟩
  · exact ⟨.r, rfl⟩
  · exact ⟨.s, rfl⟩
  · exact ⟨.x, rfl⟩
  · exact ⟨.y, rfl⟩
def others (g : Rg) : List Rg := [Rg.p, .q, .r, .s, .x, .y].filter fun r => decide (r ≠ g)
theorem LS.reg {at_ : Int} {rest S : Sto} (h : LS at_ rest S) (a0 : 0 ≤ at_) (a1 : at_ < 1000000) : ∃ (g : Rg) (S' : Sto), LS (at_ + 1) rest S' ∧ f_p_law_of [.loc 1, .str "pqrsxy"] S = .ok (.str g.n) S' := by
  obtain ⟨c, S', hc, h', e⟩ := h.of_str (x := "pqrsxy") a0 a1 (by decide) (by decide)
  obtain ⟨g, hg⟩ := reg_of hc
  exact ⟨g, S', h', by rw [e, hg]⟩
theorem LS.other {at_ : Int} {rest S : Sto} (h : LS at_ rest S) (a0 : 0 ≤ at_) (a1 : at_ < 1000000) (one : Rg) : ∃ (g : Rg) (S' : Sto), one ≠ g ∧ LS (at_ + 1) rest S' ∧ f_p_law_of [.loc 1, .lst ((others one).map fun r => .str r.n)] S = .ok (.str g.n) S' := by
  have hl : (others one).length = 5 := by cases one <;> rfl
  obtain ⟨x, S', hx, h', e⟩ := h.of_lst (xs := (others one).map fun r => .str r.n) a0 a1 (by rw [List.length_map, hl]; decide) (by rw [List.length_map, hl]; decide)
  obtain ⟨g, hg, rfl⟩ := List.mem_map.mp hx
  refine ⟨g, S', fun z => ?_, h', e⟩
  have := of_decide_eq_true (List.mem_filter.mp hg).2
  exact this z.symm
/-! ### one step of a run -/
theorem runP_step {code : List Ins} {t : Stp} {i : Ins} {m' : Mc} {a : Int} {l : List Int} (hi : code[t.at_.toNat]? = some i) (hr : isRet i = false) (he : t.m.exec i = (("" : Str), m')) (hn : nxt i t.at_ = [a]) (ha : a < code.length) :
    runP code (a :: l) t = runP code l (m'.tell a) := by
  have hs : (sucI code.length t i).1 = [m'.tell a] := by
    simp [sucI, hr, he, hn, ha]
  simp only [runP, hi, hs, List.find?_cons, Mc.tell, decide_true]
theorem get0 (g : Rg) : h0.get g = .fst g := by cases g <;> rfl
theorem on0 {a : Int} (h : -64 ≤ a ∧ a ≤ 0) : on 0 a = true := by
  simp only [on, Bool.and_eq_true, decide_eq_true_eq]; omega
theorem st0m : st0.m = ⟨0, 0, 0, h0, [(0, .bck)]⟩ := rfl
theorem on_1 {a : Int} (h0 : -64 ≤ a) (h1 : a ≤ 0) : on 0 a = true := on0 ⟨h0, h1⟩
theorem step_at {code : List Ins} {k : Nat} {i : Ins} {sp : Int} {h : Hd} {w w' : Ws} {m' : Mc} {a : Int} {l : List Int} (he : (⟨0, 0, sp, h, w⟩ : Mc).exec i = (("" : Str), m')) (hi : code[k]? = some i) (hr : isRet i = false) (hj : nxt i k = [a]) (ha : decide (a < (code.length : Int)) = true) (hw : tellW m'.w = w') :
    runP code (a :: l) ⟨(k : Int), sp, h, w⟩ = runP code l ⟨a, m'.sp, m'.h, w'⟩ := by
  subst hw
  exact runP_step (t := ⟨(k : Int), sp, h, w⟩) (by simpa using hi) hr he hj (of_decide_eq_true ha)
section
variable {sp n a : Int} {h : Hd} {w : Ws} {g : Rg}
theorem x_push (h0 : -64 ≤ sp - 1) (h1 : sp - 1 ≤ 0) : (⟨0, 0, sp, h, w⟩ : Mc).exec (.push g) = (("" : Str), ⟨0, 0, sp - 1, h, setW w (sp - 1) (h.get g)⟩) := by simp only [Mc.exec, on_1 h0 h1, if_true]
theorem x_grow (h0 : -64 ≤ sp - n) (h1 : sp - n ≤ 0) : (⟨0, 0, sp, h, w⟩ : Mc).exec (.grow n) = (("" : Str), ⟨0, 0, sp - n, h, w⟩) := by simp only [Mc.exec, Mc.go, on_1 h0 h1, if_true]
theorem x_shrink (h0 : -64 ≤ sp + n) (h1 : sp + n ≤ 0) : (⟨0, 0, sp, h, w⟩ : Mc).exec (.shrink n) = (("" : Str), ⟨0, 0, sp + n, h, w⟩) := by simp only [Mc.exec, Mc.go, on_1 h0 h1, if_true]
theorem x_point : (⟨0, 0, sp, h, w⟩ : Mc).exec (.point g n) = (("" : Str), ⟨0, 0, sp, h.set g (.wrd 0 (sp + n)), w⟩) := rfl
theorem x_storeS (h0 : -64 ≤ sp + n) (h1 : sp + n ≤ 0) : (⟨0, 0, sp, h, w⟩ : Mc).exec (.store .sp n g) = (("" : Str), ⟨0, 0, sp, h, setW w (sp + n) (h.get g)⟩) := by simp only [Mc.exec, Mc.adr, on_1 h0 h1, if_true]
theorem x_loadS (h0 : -64 ≤ sp + n) (h1 : sp + n ≤ 0) : (⟨0, 0, sp, h, w⟩ : Mc).exec (.load g .sp n) = (("" : Str), ⟨0, 0, sp, h.set g ((Ws.get w (sp + n)).getD .any), w⟩) := by simp only [Mc.exec, Mc.adr, on_1 h0 h1, if_true]
theorem adr_of {b : Rg} (e : h.get b = .wrd 0 a) : (⟨0, 0, sp, h, w⟩ : Mc).adr (.rg b) = some a := by simp only [Mc.adr, e, if_true]
theorem x_storeR {b : Rg} (e : h.get b = .wrd 0 a) (h0 : -64 ≤ a + n) (h1 : a + n ≤ 0) : (⟨0, 0, sp, h, w⟩ : Mc).exec (.store (.rg b) n g) = (("" : Str), ⟨0, 0, sp, h, setW w (a + n) (h.get g)⟩) := by simp only [Mc.exec, adr_of e, on_1 h0 h1, if_true]
theorem x_loadR {b : Rg} (e : h.get b = .wrd 0 a) (h0 : -64 ≤ a + n) (h1 : a + n ≤ 0) : (⟨0, 0, sp, h, w⟩ : Mc).exec (.load g (.rg b) n) = (("" : Str), ⟨0, 0, sp, h.set g ((Ws.get w (a + n)).getD .any), w⟩) := by simp only [Mc.exec, adr_of e, on_1 h0 h1, if_true]
theorem x_setsp (e : h.get g = .wrd 0 a) (h0 : -64 ≤ a + n) (h1 : a + n ≤ 0) : (⟨0, 0, sp, h, w⟩ : Mc).exec (.setsp g n) = (("" : Str), ⟨0, 0, a + n, h, w⟩) := by simp only [Mc.exec, adr_of e, Mc.go, on_1 h0 h1, if_true]
theorem tell1 {v : Vl} : tellW [(a, v)] = [(a, v)] := by simp [tellW, keysW, sortI, insI, Ws.get]
theorem tell2 {b : Int} {v u : Vl} (hh : b < a) : tellW [(a, v), (b, u)] = [(b, u), (a, v)] := by
  have h1 : ¬ a ≤ b := by omega
  have h2 : ¬ a = b := by omega
  simp [tellW, keysW, sortI, insI, Ws.get, h1, h2]
theorem tell2' {b : Int} {v u : Vl} (hh : a < b) : tellW [(a, v), (b, u)] = [(a, v), (b, u)] := by
  have h1 : a ≤ b := by omega
  have h2 : ¬ a = b := by omega
  simp [tellW, keysW, sortI, insI, Ws.get, h1, h2]
theorem setW0 {v : Vl} (ha : a < 0) (hv : isAny v = false) : setW [(0, .bck)] a v = [(0, .bck), (a, v)] := by
  have h1 : ¬ (0 : Int) = a := by omega
  simp [setW, hv, Ws.put, h1]
end
end U
set_option Elab.async false
set_option linter.all false
set_option maxRecDepth 100000
set_option maxHeartbeats 4000000
namespace U
open PySem Sh L2
theorem seq_nx {a b : SM} {e e' : Sh.Env} {S S' : Sto} (h : a e S = .nx e' S') : sSeq a b e S = b e' S' := by simp only [sSeq, h]
theorem seqF {a b : SM} {e e' : Sh.Env} {S S' : Sto} (h : a e S = .nx e' S') : finR (sSeq a b e S) = finR (b e' S') := by simp only [sSeq, h]
theorem last_at {S : Sto} {o : O} : (S ++ [o])[S.length]? = some o := by simp
theorem last_set {S : Sto} {o o' : O} : (S ++ [o]).set S.length o' = S ++ [o'] := by simp [List.set_append_right]
theorem app_step {e : Sh.Env} {i : Nat} {ma : EM D} {S : Sto} {xs : List D} {d : D} (h0 : e[i]? = some (some (.loc S.length))) (hl : decide (xs.length < cap) = true) (hd : ma e (S ++ [.lst xs]) = .ok d (S ++ [.lst xs])) :
    sExpr (eApp (eVar i) ma) e (S ++ [.lst xs]) = .nx e (S ++ [.lst (xs ++ [d])]) := by
  simp only [sExpr, sBind, eApp, bindE, eVar, h0, last_at, hd, if_pos (of_decide_eq_true hl), last_set]
theorem add_lst {a b : List D} (h : a.length + b.length ≤ cap) : gAdd (.lst a) (.lst b) = some (.lst (a ++ b)) := by
  simp only [gAdd]
  rw [if_pos h]
theorem sorted_1 : ∀ ws : List Str, ws.length ≤ 1 → gSorted [.lst (ws.map .str)] = some (.lst (ws.map .str))
  | [], _ => rfl
  | [w], _ => rfl
  | _ :: _ :: _, h => by simp at h
theorem suc_words {n : Int} {t : Stp} {i : Ins} : (sucI n t i).2.length ≤ 1 := by
  unfold sucI
  split
  · simp only; split <;> simp
  · split
    · simp only; split <;> simp
    · simp
theorem suc_many {n : Int} {t : Stp} {i : Ins} : (sucI n t i).1.length ≤ 2 := by
  unfold sucI
  split
  · simp
  · split
    · have h1 : ((nxt i t.at_).filter fun a => decide (a < n)).length ≤ (nxt i t.at_).length := List.length_filter_le _ _
      have h2 : (nxt i t.at_).length ≤ 2 := by
        cases i <;> simp [nxt, sortI_len, onceI] <;> split <;> simp
      rw [List.length_map]; omega
    · simp
section
variable {S : Sto}
theorem following_eq {code : List Ins} (hc : OkCode code) {l : List Int} {t : Stp} {i : Ins} (hl : l.length < 100000) (h : runP code l st0 = some t) (hi : code[t.at_.toNat]? = some i) :
    ∃ T, f_q_following [dC code, .tup ((0 :: l).map .int)] S = .ok (.tup ((sucI code.length t i).1.map fun u => .int u.at_)) (S ++ T) := by
  obtain ⟨T, hr, g⟩ := run_eq (S := S) hc hl h
  have h65 : t.w.length ≤ 65 := g.m.len
  obtain ⟨m, hs⟩ := successors_eq (S := S ++ T) code t i g.at0 hi g.m.nd (by omega)
  have hk : (List.map dStop (sucI code.length t i).1).length ≤ 199999 := by
    rw [List.length_map]; have := suc_many (n := code.length) (t := t) (i := i); omega
  have hlc : lcL (bVar 2) bYes e_q_following_1 [some (dC code), some (.tup ((0 :: l).map .int)), none] ((sucI code.length t i).1.map dStop) (ms (S ++ T) m) = .ok ((sucI code.length t i).1.map fun u => .int u.at_) (ms (S ++ T) m) := by
    rw [lcL_pure (fun _ => true) (fun d => match d with | .tup (x :: _) => x | d => d) (fun d hd => by
      obtain ⟨u, hu, rfl⟩ := List.mem_map.mp hd
      exact ⟨_, rfl, rfl, fun _ => rfl⟩)]
    congr 1
    rw [List.filter_eq_self.mpr fun _ _ => rfl, List.map_map]
    rfl
  refine ⟨T ++ [O.dic m.h.d, O.dic (Ws.d m.w), O.ins 0 (flds m.num m.base m.sp (S ++ T).length)], ?_⟩
  rw [← List.append_assoc]
  generalize (0 :: l).map D.int = ps at hr hlc ⊢
  simp (maxSteps := 10000000) (disch := first | omega | decide | rfl | simp only [List.length_map]) only [fnM, startE, finR, List.length_cons, List.length_nil, List.map_cons, List.map_nil, if_true, if_false, sSeq, sBind, sAsg, sRet, sRetN, sNil, sIf, sExpr, sPar, bindE, eOp, eVar, eC, eCallB, eCall, eCons, eNil, eTup, eLst, eIf, vAnd, vOr, vNot, bAnd, bOr, bNot, asB, liftO, gVar, onlyN, List.replicate, List.append_nil, List.cons_append, List.nil_append, List.getElem?_cons_zero, List.getElem?_cons_succ, List.set_cons_zero, List.set_cons_succ, Nat.reduceAdd, Nat.reduceSub, Nat.reduceLeDiff, Bool.false_eq_true, Bool.not_true, Bool.not_false, reduceIte, Nat.reduceEqDiff, d_int, d_str, d_bl, d_non, d_tup, d_ftp, d_lst, d_fls, d_dic, d_ty, d_locL, d_locD, add_int, sub_int, mul_int, mod_int, div_int, lt_int, le_int, gt_int, ge_int, int_int, len_lst, len_tup, len_fls, idx_lst, idx_tup, idx_dicS, idx_dicI, eFld, eMeth, sFldM, gFld, gSubM, eGet2, ePop2, eChain, i_at, eq_self, l_num, l_base, l_sp, l_held, l_words, p_sp, f_len5, l_m0, l_m1, l_m2, l_m3, l_m4, l_m5, l_m6, l_m7, l_m8, l_m9, m_h, m_w, m_i, m_seth, m_setw, m_seti, look_h, look_w, d_dV, dm_h, dm_w, put_w, put_h, drop_w, eq_any, eq_out, dicOf, locDic, toKey, v_STACK, v_GOES_ON, v_OFF_STACK, v_WILD, v_MOST_WORDS, v_RETURN, v_END, Nat.reduceLT, eqs, ine, atI2_0, atI2_1, atI3_0, atI3_1, atI3_2, atI4_0, atI4_1, atI4_2, atI4_3, atI1_0, decide_true, decide_false, decide_eq_false, gEqT, in_str, isS, strIn, Bool.or_false, Bool.false_or, Bool.true_or, Bool.or_true, Bool.and_true, Bool.true_and, Bool.and_false, Bool.false_and, List.all_cons, List.all_nil, nes, is_non, is_int, eUn, neg_int, gB, bTup, bMore, bVar, bNone, Option.bind_some, st_h, st_hA, gd_any, d_out, d_any, lcF_n, lcL, sLoopF_n, sLoop, eSrc, eLc, sFor, fuelOf, wipeE, bYes, Option.map_some, Option.map_none, Option.getD_some, Option.getD_none, tup_lst, tupF_lst, f_q_following, b_q_following, hr, hs, hk, hlc]
  rfl
theorem breaking_eq {code : List Ins} (hc : OkCode code) {l : List Int} {t : Stp} {i : Ins} (hl : l.length < 100000) (h : runP code l st0 = some t) (hi : code[t.at_.toNat]? = some i) :
    ∃ T, f_q_breaking [dC code, .tup ((0 :: l).map .int)] S = .ok (.tup ((sucI code.length t i).2.map .str)) (S ++ T) := by
  obtain ⟨T, hr, g⟩ := run_eq (S := S) hc hl h
  have h65 : t.w.length ≤ 65 := g.m.len
  obtain ⟨m, hs⟩ := successors_eq (S := S ++ T) code t i g.at0 hi g.m.nd (by omega)
  have hsd := sorted_1 (sucI code.length t i).2 suc_words
  refine ⟨T ++ [O.dic m.h.d, O.dic (Ws.d m.w), O.ins 0 (flds m.num m.base m.sp (S ++ T).length)], ?_⟩
  rw [← List.append_assoc]
  generalize (0 :: l).map D.int = ps at hr ⊢
  simp (maxSteps := 10000000) (disch := first | omega | decide | rfl | simp only [List.length_map]) only [fnM, startE, finR, List.length_cons, List.length_nil, List.map_cons, List.map_nil, if_true, if_false, sSeq, sBind, sAsg, sRet, sRetN, sNil, sIf, sExpr, sPar, bindE, eOp, eVar, eC, eCallB, eCall, eCons, eNil, eTup, eLst, eIf, vAnd, vOr, vNot, bAnd, bOr, bNot, asB, liftO, gVar, onlyN, List.replicate, List.append_nil, List.cons_append, List.nil_append, List.getElem?_cons_zero, List.getElem?_cons_succ, List.set_cons_zero, List.set_cons_succ, Nat.reduceAdd, Nat.reduceSub, Nat.reduceLeDiff, Bool.false_eq_true, Bool.not_true, Bool.not_false, reduceIte, Nat.reduceEqDiff, d_int, d_str, d_bl, d_non, d_tup, d_ftp, d_lst, d_fls, d_dic, d_ty, d_locL, d_locD, add_int, sub_int, mul_int, mod_int, div_int, lt_int, le_int, gt_int, ge_int, int_int, len_lst, len_tup, len_fls, idx_lst, idx_tup, idx_dicS, idx_dicI, eFld, eMeth, sFldM, gFld, gSubM, eGet2, ePop2, eChain, i_at, eq_self, l_num, l_base, l_sp, l_held, l_words, p_sp, f_len5, l_m0, l_m1, l_m2, l_m3, l_m4, l_m5, l_m6, l_m7, l_m8, l_m9, m_h, m_w, m_i, m_seth, m_setw, m_seti, look_h, look_w, d_dV, dm_h, dm_w, put_w, put_h, drop_w, eq_any, eq_out, dicOf, locDic, toKey, v_STACK, v_GOES_ON, v_OFF_STACK, v_WILD, v_MOST_WORDS, v_RETURN, v_END, Nat.reduceLT, eqs, ine, atI2_0, atI2_1, atI3_0, atI3_1, atI3_2, atI4_0, atI4_1, atI4_2, atI4_3, atI1_0, decide_true, decide_false, decide_eq_false, gEqT, in_str, isS, strIn, Bool.or_false, Bool.false_or, Bool.true_or, Bool.or_true, Bool.and_true, Bool.true_and, Bool.and_false, Bool.false_and, List.all_cons, List.all_nil, nes, is_non, is_int, eUn, neg_int, gB, bTup, bMore, bVar, bNone, Option.bind_some, st_h, st_hA, gd_any, d_out, d_any, lcF_n, lcL, sLoopF_n, sLoop, eSrc, eLc, sFor, fuelOf, wipeE, bYes, Option.map_some, Option.map_none, Option.getD_some, Option.getD_none, tup_lst, tupF_lst, f_q_breaking, b_q_breaking, hr, hs, hsd]
  rfl
end
end U
set_option Elab.async false
set_option linter.all false
set_option maxRecDepth 100000
set_option maxHeartbeats 4000000
namespace U
open PySem Sh L2
/-! ### rows: a code, its path, where the run can stop next, the words with which it can break -/
structure Rw where
  c : List Ins
  l : List Int
  pl : List Int
  wd : List Str
/-- what is told behind a path -/
def outs (code : List Ins) (l : List Int) : Option (List Int × List Str) := match runP code l st0 with
  | none => none
  | some t => match code[t.at_.toNat]? with
    | none => none
    | some i => some ((sucI code.length t i).1.map (·.at_), (sucI code.length t i).2)
def RwOk (r : Rw) : Prop := decOk r.c = true ∧ r.l.length < 100000 ∧ outs r.c r.l = some (r.pl, r.wd)
theorem outs_of {code : List Ins} {l : List Int} {p : List Int} {w : List Str} (h : outs code l = some (p, w)) : ∃ t i, runP code l st0 = some t ∧ code[t.at_.toNat]? = some i ∧ (sucI code.length t i).1.map (·.at_) = p ∧ (sucI code.length t i).2 = w := by
  unfold outs at h
  split at h
  · cases h
  · rename_i t q
    split at h
    · cases h
    · rename_i i qi
      cases h
      exact ⟨t, i, q, qi, rfl, rfl⟩
/-- the last instruction breaks -/
theorem outs_bad {code : List Ins} {l : List Int} {k : Nat} {sp : Int} {h : Hd} {w : Ws} {i : Ins} {x : Str} (hr : runP code l st0 = some ⟨k, sp, h, w⟩) (hi : code[k]? = some i) (hn : isRet i = false) (hx : ((⟨0, 0, sp, h, w⟩ : Mc).exec i).1 = x) (hne : decide (x = "") = false) : outs code l = some ([], [x]) := by
  have h1 : code[(k : Int).toNat]? = some i := by simpa using hi
  have hne' : ¬ x = "" := of_decide_eq_false hne
  simp only [outs, hr, h1, sucI, hn, Bool.false_eq_true, if_false, Stp.m, hx, hne', List.map_nil]
/-- the last instruction is done -/
theorem outs_ok {code : List Ins} {l : List Int} {k : Nat} {sp : Int} {h : Hd} {w : Ws} {i : Ins} {a : Int} {m' : Mc} (hr : runP code l st0 = some ⟨k, sp, h, w⟩) (hi : code[k]? = some i) (hn : isRet i = false) (hx : (⟨0, 0, sp, h, w⟩ : Mc).exec i = (("" : Str), m')) (hj : nxt i k = [a]) (ha : decide (a < (code.length : Int)) = true) : outs code l = some ([a], []) := by
  have h1 : code[(k : Int).toNat]? = some i := by simpa using hi
  have h2 : a < (code.length : Int) := of_decide_eq_true ha
  have h3 : ¬ (code.length : Int) = a := by omega
  simp [outs, hr, hi, sucI, hn, Stp.m, hx, hj, h2, h3, Mc.tell]
theorem off1 {a : Int} (h : a < -64 ∨ 0 < a) : on 0 a = false := by
  simp only [on, Bool.and_eq_false_iff, decide_eq_false_iff_not]; omega
section
variable {sp n a : Int} {h : Hd} {w : Ws} {g : Rg}
theorem y_grow (h0 : sp - n < -64 ∨ 0 < sp - n) : ((⟨0, 0, sp, h, w⟩ : Mc).exec (.grow n)).1 = "sp" := by simp only [Mc.exec, Mc.go, off1 h0, Bool.false_eq_true, if_false]
theorem y_shrink (h0 : sp + n < -64 ∨ 0 < sp + n) : ((⟨0, 0, sp, h, w⟩ : Mc).exec (.shrink n)).1 = "sp" := by simp only [Mc.exec, Mc.go, off1 h0, Bool.false_eq_true, if_false]
theorem y_loadS (h0 : sp + n < -64 ∨ 0 < sp + n) : ((⟨0, 0, sp, h, w⟩ : Mc).exec (.load g .sp n)).1 = "wild" := by simp only [Mc.exec, Mc.adr, off1 h0, Bool.false_eq_true, if_false]
theorem y_loadR {b : Rg} (e : h.get b = .wrd 0 a) (h0 : a + n < -64 ∨ 0 < a + n) : ((⟨0, 0, sp, h, w⟩ : Mc).exec (.load g (.rg b) n)).1 = "wild" := by simp only [Mc.exec, adr_of e, off1 h0, Bool.false_eq_true, if_false]
theorem y_setsp (e : h.get g = .wrd 0 a) (h0 : a + n < -64 ∨ 0 < a + n) : ((⟨0, 0, sp, h, w⟩ : Mc).exec (.setsp g n)).1 = "sp" := by simp only [Mc.exec, adr_of e, Mc.go, off1 h0, Bool.false_eq_true, if_false]
end
def rws (one two : Rg) (n : Int) : List (List Ins × Str) := [
  ([.grow 64, .push one], "sp"), ([.grow 63, .push one], ""),
  ([.pop one], "sp"), ([.push two, .pop one], ""), ([.shrink n], "sp"),
  ([.grow n, .shrink n], ""), ([.grow n, .shrink (n + 1)], "sp"),
  ([.grow n, .grow (64 - n)], ""), ([.grow n, .grow 64], "sp"),
  ([.store .sp (-64) one], ""), ([.grow 1, .store .sp (-64) one], "wild"),
  ([.store .sp 1 one], "wild"), ([.load one .sp 1], "wild"),
  ([.grow n, .load one .sp n], ""), ([.grow n, .load one .sp (n + 1)], "wild"),
  ([.store (.rg one) 0 two], "wild"), ([.load two (.rg one) 0], "wild"), ([.setsp one 0], "wild"),
  ([.point one n, .load two (.rg one) (0 - n)], ""), ([.point one 0, .work one], ""),
  ([.point one n, .load two (.rg one) (1 - n)], "wild"),
  ([.point one n, .setsp one (1 - n)], "sp"), ([.point one n, .setsp one (0 - n)], ""),
  ([.point one (-64), .setsp one (-1)], "sp"), ([.point one (-64), .setsp one 0], ""),
  ([.load one .sp 0, .store (.rg one) 0 two], "wild"),
  ([.point one 0, .push one, .pop two, .store (.rg two) (-3) one], "")]
def dRw1 (p : List Ins × Str) : D := .tup [.lst (p.1.map dI), .str p.2]
theorem rws_eq (one two : Rg) (n : Int) (S : Sto) : f_p_law_rows_1 [.str one.n, .str two.n, .int n] S = .ok (.lst ((rws one two n).map dRw1)) S := by
  kernel_rfl
/-- as a row with its path -/
def toRw (p : List Ins × Str) : Rw := ⟨p.1 ++ [.ret], ups (p.1.length - 1), if p.2 = "" then [(p.1.length : Int)] else [], if p.2 = "" then [] else [p.2]⟩
theorem rws_ok {one two : Rg} {n : Int} (hd : one ≠ two) (h1 : 1 ≤ n) (h2 : n ≤ 62) : ∀ p ∈ rws one two n, RwOk (toRw p) ∧ p.1 ≠ [] ∧ p.1.length ≤ 4 := by
  have hd' : two ≠ one := fun z => hd z.symm
  have hg : ∀ a : Int, ((h0.set one (.wrd 0 a)).get one) = .wrd 0 a := fun a => by rw [get_set, if_pos rfl]
  have z1 : ([] : List Int) = ups 0 := rfl
  have gr : ∀ (c : List Ins), decide ((1 : Int) < ((Ins.grow n :: c).length : Int)) = true → runP (Ins.grow n :: c) (ups 1) st0 = some ⟨((1 : Nat) : Int), 0 - n, h0, [(0, .bck)]⟩ := fun c hc =>
    (step_at (k := 0) (w' := [(0, .bck)]) (a := 1) (l := []) (x_grow (by omega) (by omega)) rfl rfl rfl hc tell1).trans rfl
  have po : ∀ (c : List Ins) (k : Int), decide ((1 : Int) < ((Ins.point one k :: c).length : Int)) = true → runP (Ins.point one k :: c) (ups 1) st0 = some ⟨((1 : Nat) : Int), 0, h0.set one (.wrd 0 (0 + k)), [(0, .bck)]⟩ := fun c k hc =>
    (step_at (k := 0) (w' := [(0, .bck)]) (a := 1) (l := []) x_point rfl rfl rfl hc tell1).trans rfl
  intro p hp
  simp only [rws, List.mem_cons, List.not_mem_nil, or_false] at hp
  rcases hp with rfl | rfl | rfl | rfl | rfl | rfl | rfl | rfl | rfl | rfl | rfl | rfl | rfl | rfl | rfl | rfl | rfl | rfl | rfl | rfl | rfl | rfl | rfl | rfl | rfl | rfl | rfl
  all_goals refine ⟨⟨?_, by simp [toRw, ups], ?_⟩, by simp, by simp⟩
  all_goals first
    | (simp only [toRw, decOk, okIns, List.cons_append, List.nil_append, List.length_cons, List.length_nil, List.all_cons, List.all_nil, Bool.and_eq_true, decide_eq_true_eq, Bool.and_true, and_true, true_and]; first | omega | (refine ⟨?_, ?_⟩ <;> first | omega | decide) | decide; done)
    | skip
  · clear h1 h2 gr po hg; cases one <;> decide +kernel
  · clear h1 h2 gr po hg; cases one <;> decide +kernel
  · clear h1 h2 gr po hg; cases one <;> decide +kernel
  · clear h1 h2 gr po hg; cases one <;> cases two <;> first | exact absurd rfl hd | decide +kernel
  · exact outs_bad (k := 0) (sp := 0) (h := h0) (w := [(0, .bck)]) rfl rfl rfl (y_shrink (by omega)) rfl
  · exact outs_ok (k := 1) (gr _ rfl) rfl rfl (x_shrink (by omega) (by omega)) rfl rfl
  · exact outs_bad (k := 1) (gr _ rfl) rfl rfl (y_shrink (by omega)) rfl
  · exact outs_ok (k := 1) (gr _ rfl) rfl rfl (x_grow (by omega) (by omega)) rfl rfl
  · exact outs_bad (k := 1) (gr _ rfl) rfl rfl (y_grow (by omega)) rfl
  · clear h1 h2 gr po hg; cases one <;> decide +kernel
  · clear h1 h2 gr po hg; cases one <;> decide +kernel
  · clear h1 h2 gr po hg; cases one <;> decide +kernel
  · clear h1 h2 gr po hg; cases one <;> decide +kernel
  · exact outs_ok (k := 1) (gr _ rfl) rfl rfl (x_loadS (by omega) (by omega)) rfl rfl
  · exact outs_bad (k := 1) (gr _ rfl) rfl rfl (y_loadS (by omega)) rfl
  · clear h1 h2 gr po hg; cases one <;> cases two <;> first | exact absurd rfl hd | decide +kernel
  · clear h1 h2 gr po hg; cases one <;> cases two <;> first | exact absurd rfl hd | decide +kernel
  · clear h1 h2 gr po hg; cases one <;> decide +kernel
  · exact outs_ok (k := 1) (po _ _ rfl) rfl rfl (x_loadR (hg _) (by omega) (by omega)) rfl rfl
  · clear h1 h2 gr po hg; cases one <;> decide +kernel
  · exact outs_bad (k := 1) (po _ _ rfl) rfl rfl (y_loadR (hg _) (by omega)) rfl
  · exact outs_bad (k := 1) (po _ _ rfl) rfl rfl (y_setsp (hg _) (by omega)) rfl
  · exact outs_ok (k := 1) (po _ _ rfl) rfl rfl (x_setsp (hg _) (by omega) (by omega)) rfl rfl
  · clear h1 h2 gr po hg; cases one <;> decide +kernel
  · clear h1 h2 gr po hg; cases one <;> decide +kernel
  · clear h1 h2 gr po hg; cases one <;> cases two <;> first | exact absurd rfl hd | decide +kernel
  · clear h1 h2 gr po hg; cases one <;> cases two <;> first | exact absurd rfl hd | decide +kernel
def ends (one : Rg) (n : Int) : List Rw := [
  ⟨[.ret], [], [], []⟩, ⟨[.push one, .ret], [1], [], ["return"]⟩,
  ⟨[.store .sp 0 one, .ret], [1], [], ["return"]⟩,
  ⟨[.load one .sp 0, .push one, .pop one, .store .sp 0 one, .ret], [1, 2, 3, 4], [], []⟩,
  ⟨[.grow n, .shrink n, .ret], [1, 2], [], []⟩,
  ⟨[.work one], [], [], ["end"]⟩,
  ⟨[.call "f"], [], [], ["end"]⟩,
  ⟨[.branch 0], [0], [0], ["end"]⟩,
  ⟨[.jump 0], [0, 0], [0], []⟩,
  ⟨[.branch 1, .branch 0], [1], [0], ["end"]⟩,
  ⟨[.branch 2, .jump 0, .ret], [], [1, 2], []⟩]
def dRw (r : Rw) : D := .tup [.lst (r.c.map dI), .tup ((0 :: r.l).map .int), .tup (r.pl.map .int), .tup (r.wd.map .str)]
theorem ends_ok {one : Rg} {n : Int} (h1 : 1 ≤ n) (h2 : n ≤ 62) : ∀ r ∈ ends one n, RwOk r := by
  intro r hr
  simp only [ends, List.mem_cons, List.not_mem_nil, or_false] at hr
  rcases hr with rfl | rfl | rfl | rfl | rfl | rfl | rfl | rfl | rfl | rfl | rfl
  all_goals refine ⟨?_, by simp, ?_⟩
  all_goals first
    | (simp only [decOk, okIns, List.cons_append, List.nil_append, List.length_cons, List.length_nil, List.all_cons, List.all_nil, Bool.and_eq_true, decide_eq_true_eq, Bool.and_true, and_true, true_and]; first | omega | (refine ⟨?_, ?_⟩ <;> first | omega | decide) | decide; done)
    | (clear h1 h2; decide +kernel)
    | (clear h1 h2; cases one <;> decide +kernel)
    | skip
  have e : runP [.grow n, .shrink n, .ret] [1, 2] st0 = some ⟨((2 : Nat) : Int), 0 - n + n, h0, [(0, .bck)]⟩ := (step_at (k := 0) (w' := [(0, .bck)]) (a := 1) (l := [2]) (x_grow (by omega) (by omega)) rfl rfl rfl rfl tell1).trans ((step_at (k := 1) (w' := [(0, .bck)]) (a := 2) (l := []) (x_shrink (by dsimp only; omega) (by dsimp only; omega)) rfl rfl rfl rfl tell1).trans rfl)
  rw [show 0 - n + n = 0 by omega] at e
  simp only [outs, e]
  rfl
end U
set_option Elab.async false
set_option linter.all false
set_option maxRecDepth 100000
set_option maxHeartbeats 4000000
namespace U
open PySem Sh L2
theorem ret_add {e : Sh.Env} {i : Nat} {mb : EM D} {S : Sto} {xs ys : List D} (h0 : e[i]? = some (some (.loc S.length))) (hb : mb e (S ++ [.lst xs]) = .ok (.lst ys) (S ++ [.lst xs])) (hl : decide (xs.length + ys.length ≤ cap) = true) :
    finR (sRet (eOp gAdd (eVar i) mb) e (S ++ [.lst xs])) = .ok (.lst (xs ++ ys)) (S ++ [.lst xs]) := by
  have hd : deref (S ++ [.lst xs]) (.loc S.length) = .lst xs := d_locL last_at
  have ha : gAdd (.lst xs) (.lst ys) = some (.lst (xs ++ ys)) := add_lst (of_decide_eq_true hl)
  simp only [sRet, sBind, eOp, bindE, eVar, h0, hb, hd, d_lst, liftO, ha, finR]
theorem ends_eq (one : Rg) (n : Int) (S : Sto) : ∃ T, f_p_law_ends [.str one.n, .int n] S = .ok (.lst ((ends one n).map dRw)) (S ++ T) := by
  refine ⟨[.lst (((ends one n).map dRw).take 10)], ?_⟩
  show finR (b_p_law_ends [some (.str one.n), some (.int n), none, none] S) = _
  unfold b_p_law_ends
  repeat (first | refine (seqF (app_step rfl rfl rfl)).trans ?_ | refine (seqF rfl).trans ?_)
  exact (ret_add rfl rfl rfl).trans rfl
/-! ### what is told, as data -/
def pI (l : List Int) : PyData := .tuple (l.map .int)
def pW (l : List Str) : PyData := .tuple (l.map .str)
theorem toPys_strs (l : List Str) : toPys (l.map D.str) = some (l.map PyData.str) := by
  induction l with
  | nil => rfl
  | cons x r ih => simp only [List.map_cons, toPys, toPy, ih]
theorem toPy_pair (l : List Int) (w : List Str) : toPy (.lst [.tup (l.map .int), .tup (w.map .str)]) = some (.list [pI l, pW w]) := by
  simp only [toPy, toPys, toPys_int, toPys_strs, Option.map_some]
  rfl
/-- both functions tell a row's -/
theorem both {r : Rw} (h : RwOk r) (S : Sto) : ∃ T1 T2, f_q_following [dC r.c, .tup ((0 :: r.l).map .int)] S = .ok (.tup (r.pl.map .int)) (S ++ T1) ∧ f_q_breaking [dC r.c, .tup ((0 :: r.l).map .int)] (S ++ T1) = .ok (.tup (r.wd.map .str)) (S ++ T1 ++ T2) := by
  obtain ⟨hc, hl, ho⟩ := h
  obtain ⟨t, i, hr, hi, h1, h2⟩ := outs_of ho
  obtain ⟨T1, e1⟩ := following_eq (S := S) (okCode_of hc) hl hr hi
  obtain ⟨T2, e2⟩ := breaking_eq (S := S ++ T1) (okCode_of hc) hl hr hi
  refine ⟨T1, T2, ?_, ?_⟩
  · rw [e1, ← h1, List.map_map]; rfl
  · rw [e2, h2]
/-- small places, few words: they can be written -/
def RwFit (r : Rw) : Prop := fitR (.list [pI r.pl, pW r.wd]) = true
theorem ne_both {e : Sh.Env} {S : Sto} {mc mp md : EM D} {r : Rw} {d : D} (h : RwOk r) (hf : RwFit r) (h1 : ∀ S, mc e S = .ok (dC r.c) S) (h2 : ∀ S, mp e S = .ok (.tup ((0 :: r.l).map .int)) S) (h3 : ∀ S, md e S = .ok d S) (h4 : d = .lst [.tup (r.pl.map .int), .tup (r.wd.map .str)]) :
    ∃ T, asB (eOp gNe (eCallB gRepr (eCons (eLst (eCons (eCall f_q_following (eCons mc (eCons mp eNil))) (eCons (eCall f_q_breaking (eCons mc (eCons mp eNil))) eNil))) eNil)) (eCallB gRepr (eCons md eNil))) e S = .ok false (S ++ T) := by
  obtain ⟨T1, T2, e1, e2⟩ := both h S
  subst h4
  refine ⟨T1 ++ T2, ?_⟩
  rw [← List.append_assoc]
  have rp : gRepr [.lst [.tup (r.pl.map .int), .tup (r.wd.map .str)]] = some (.str (PyData.list [pI r.pl, pW r.wd]).shown) := repr_of (toPy_pair _ _) hf
  generalize (0 :: r.l).map D.int = ps at e1 e2 h2
  simp (maxSteps := 10000000) (disch := omega) only [fnM, startE, finR, List.length_cons, List.length_nil, List.map_cons, List.map_nil, if_true, if_false, sSeq, sBind, sAsg, sRet, sRetN, sNil, sIf, sExpr, sPar, bindE, eOp, eVar, eC, eCallB, eCall, eCons, eNil, eTup, eLst, eIf, vAnd, vOr, vNot, bAnd, bOr, bNot, asB, liftO, gVar, onlyN, List.replicate, List.append_nil, List.cons_append, List.nil_append, List.getElem?_cons_zero, List.getElem?_cons_succ, List.set_cons_zero, List.set_cons_succ, Nat.reduceAdd, Nat.reduceSub, Nat.reduceLeDiff, Bool.false_eq_true, Bool.not_true, Bool.not_false, reduceIte, Nat.reduceEqDiff, d_int, d_str, d_bl, d_non, d_tup, d_ftp, d_lst, d_fls, d_dic, d_ty, d_locL, d_locD, add_int, sub_int, mul_int, mod_int, div_int, lt_int, le_int, gt_int, ge_int, int_int, len_lst, len_tup, len_fls, idx_lst, idx_tup, idx_dicS, idx_dicI, h1, h2, h3, e1, e2, rp, nes, decide_true]
end U
set_option Elab.async false
set_option linter.all false
set_option maxRecDepth 100000
set_option maxHeartbeats 4000000
namespace U
open PySem Sh L2
theorem fp1 : fitR (.list [pI [1], pW []]) = true := by decide +kernel
theorem fp2 : fitR (.list [pI [2], pW []]) = true := by decide +kernel
theorem fp4 : fitR (.list [pI [4], pW []]) = true := by decide +kernel
theorem fsp : fitR (.list [pI [], pW ["sp"]]) = true := by decide +kernel
theorem fwild : fitR (.list [pI [], pW ["wild"]]) = true := by decide +kernel
theorem fnil : fitR (.list [pI [], pW []]) = true := by decide +kernel
theorem fret : fitR (.list [pI [], pW ["return"]]) = true := by decide +kernel
theorem fend : fitR (.list [pI [], pW ["end"]]) = true := by decide +kernel
theorem f0end : fitR (.list [pI [0], pW ["end"]]) = true := by decide +kernel
theorem f0 : fitR (.list [pI [0], pW []]) = true := by decide +kernel
theorem f12 : fitR (.list [pI [1, 2], pW []]) = true := by decide +kernel
theorem rws_fit {one two : Rg} {n : Int} : ∀ p ∈ rws one two n, RwFit (toRw p) := by
  intro p hp
  simp only [rws, List.mem_cons, List.not_mem_nil, or_false] at hp
  rcases hp with rfl | rfl | rfl | rfl | rfl | rfl | rfl | rfl | rfl | rfl | rfl | rfl | rfl | rfl | rfl | rfl | rfl | rfl | rfl | rfl | rfl | rfl | rfl | rfl | rfl | rfl | rfl
  all_goals first | exact fp1 | exact fp2 | exact fp4 | exact fsp | exact fwild
theorem ends_fit {one : Rg} {n : Int} : ∀ r ∈ ends one n, RwFit r := by
  intro p hp
  simp only [ends, List.mem_cons, List.not_mem_nil, or_false] at hp
  rcases hp with rfl | rfl | rfl | rfl | rfl | rfl | rfl | rfl | rfl | rfl | rfl
  all_goals first | exact fnil | exact fret | exact fend | exact f0end | exact f0 | exact f12
/-- the slots of the law that are read -/
def E8 (s : D) (e : Sh.Env) : Prop := ∃ x2 x3 x4 x5 x6 x7 x8 x9 x10 x11 x12 x13, e = [some s, some (.loc 1), x2, x3, x4, x5, x6, x7, x8, x9, x10, x11, x12, x13]
theorem due8 (p : List Ins × Str) (e : Sh.Env) (S : Sto) (h6 : e[6]? = some (some (.lst (p.1.map dI)))) (h7 : e[7]? = some (some (.str p.2))) :
    (eIf (asB (eOp gEq (eVar 7) (eC (.str "")))) (eLst (eCons (eTup (eCons (eCallB gLen (eCons (eVar 6) (eNil))) (eNil))) (eCons (eTup (eNil)) (eNil)))) (eLst (eCons (eTup (eNil)) (eCons (eTup (eCons (eVar 7) (eNil))) (eNil))))) e S = .ok (.lst [.tup ((toRw p).pl.map .int), .tup ((toRw p).wd.map .str)]) S := by
  by_cases c : p.2 = ""
  · simp (maxSteps := 10000000) (disch := omega) only [fnM, startE, finR, List.length_cons, List.length_nil, List.map_cons, List.map_nil, if_true, if_false, sSeq, sBind, sAsg, sRet, sRetN, sNil, sIf, sExpr, sPar, bindE, eOp, eVar, eC, eCallB, eCall, eCons, eNil, eTup, eLst, eIf, vAnd, vOr, vNot, bAnd, bOr, bNot, asB, liftO, gVar, onlyN, List.replicate, List.append_nil, List.cons_append, List.nil_append, List.getElem?_cons_zero, List.getElem?_cons_succ, List.set_cons_zero, List.set_cons_succ, Nat.reduceAdd, Nat.reduceSub, Nat.reduceLeDiff, Bool.false_eq_true, Bool.not_true, Bool.not_false, reduceIte, Nat.reduceEqDiff, d_int, d_str, d_bl, d_non, d_tup, d_ftp, d_lst, d_fls, d_dic, d_ty, d_locL, d_locD, add_int, sub_int, mul_int, mod_int, div_int, lt_int, le_int, gt_int, ge_int, int_int, len_lst, len_tup, len_fls, idx_lst, idx_tup, idx_dicS, idx_dicI, h6, h7, eqs, c, decide_true, List.length_map, toRw]
  · simp (maxSteps := 10000000) (disch := omega) only [fnM, startE, finR, List.length_cons, List.length_nil, List.map_cons, List.map_nil, if_true, if_false, sSeq, sBind, sAsg, sRet, sRetN, sNil, sIf, sExpr, sPar, bindE, eOp, eVar, eC, eCallB, eCall, eCons, eNil, eTup, eLst, eIf, vAnd, vOr, vNot, bAnd, bOr, bNot, asB, liftO, gVar, onlyN, List.replicate, List.append_nil, List.cons_append, List.nil_append, List.getElem?_cons_zero, List.getElem?_cons_succ, List.set_cons_zero, List.set_cons_succ, Nat.reduceAdd, Nat.reduceSub, Nat.reduceLeDiff, Bool.false_eq_true, Bool.not_true, Bool.not_false, reduceIte, Nat.reduceEqDiff, d_int, d_str, d_bl, d_non, d_tup, d_ftp, d_lst, d_fls, d_dic, d_ty, d_locL, d_locD, add_int, sub_int, mul_int, mod_int, div_int, lt_int, le_int, gt_int, ge_int, int_int, len_lst, len_tup, len_fls, idx_lst, idx_tup, idx_dicS, idx_dicI, h6, h7, eqs, c, decide_false, toRw]
theorem row8 {p : List Ins × Str} (h : RwOk (toRw p)) (hf : RwFit (toRw p)) (hn : p.1 ≠ []) (h4 : p.1.length ≤ 4) {s : D} {x2 x3 x4 x5 x8 x9 x10 x11 x12 x13 : Option D} {S : Sto} :
    ∃ T y8 y9 y12, l_q_law_1_3 [some s, some (.loc 1), x2, x3, x4, x5, some (.lst (p.1.map dI)), some (.str p.2), x8, x9, x10, x11, x12, x13] S =
      .nx [some s, some (.loc 1), x2, x3, x4, x5, some (.lst (p.1.map dI)), some (.str p.2), y8, y9, x10, x11, y12, x13] (S ++ T) := by
  have hl : 1 ≤ p.1.length := by cases q : p.1 with
    | nil => exact absurd q hn
    | cons a r => simp
  have a1 : gAdd (.lst (p.1.map dI)) (.lst [.tup [.str "return"]]) = some (.lst ((p.1 ++ [Ins.ret]).map dI)) := by
    rw [add_lst (by simp only [List.length_map, List.length_cons, List.length_nil, cap]; omega), dI_eq]
  have hr : rngD 0 ((p.1.length : Int)).toNat = (0 :: ups (p.1.length - 1)).map .int := by
    have := rng_ups (p.1.length - 1)
    rw [← this]
    congr 1
    omega
  have hb : (0 : Int) ≤ (p.1.length : Int) ∧ (p.1.length : Int) ≤ 1000 := by omega
  unfold l_q_law_1_3
  have s1 : sPar 12 9 (eCons (eCallB gTuple (eCons (eOp gAdd (eVar 6) (eLst (eCons (eTup (eCons (eC (.str "return")) (eNil))) (eNil)))) (eNil))) (eCons (eTupR (eCallB gLen (eCons (eVar 6) (eNil)))) (eNil))) [some s, some (.loc 1), x2, x3, x4, x5, some (.lst (p.1.map dI)), some (.str p.2), x8, x9, x10, x11, x12, x13] S =
      .nx [some s, some (.loc 1), x2, x3, x4, x5, some (.lst (p.1.map dI)), some (.str p.2), x8, some (.tup ((0 :: ups (p.1.length - 1)).map .int)), x10, x11, some (dC (p.1 ++ [Ins.ret])), x13] S := by
    simp (maxSteps := 10000000) (disch := omega) only [fnM, startE, finR, List.length_cons, List.length_nil, List.map_cons, List.map_nil, if_true, if_false, sSeq, sBind, sAsg, sRet, sRetN, sNil, sIf, sExpr, sPar, bindE, eOp, eVar, eC, eCallB, eCall, eCons, eNil, eTup, eLst, eIf, vAnd, vOr, vNot, bAnd, bOr, bNot, asB, liftO, gVar, onlyN, List.replicate, List.append_nil, List.cons_append, List.nil_append, List.getElem?_cons_zero, List.getElem?_cons_succ, List.set_cons_zero, List.set_cons_succ, Nat.reduceAdd, Nat.reduceSub, Nat.reduceLeDiff, Bool.false_eq_true, Bool.not_true, Bool.not_false, reduceIte, Nat.reduceEqDiff, d_int, d_str, d_bl, d_non, d_tup, d_ftp, d_lst, d_fls, d_dic, d_ty, d_locL, d_locD, add_int, sub_int, mul_int, mod_int, div_int, lt_int, le_int, gt_int, ge_int, int_int, len_lst, len_tup, len_fls, idx_lst, idx_tup, idx_dicS, idx_dicI, a1, tup_lst, List.length_map, eTupR, hb, and_self, hr]
    rfl
  obtain ⟨T, ht⟩ := ne_both (S := S) (e := [some s, some (.loc 1), x2, x3, x4, x5, some (.lst (p.1.map dI)), some (.str p.2), some (.lst [.tup ((toRw p).pl.map .int), .tup ((toRw p).wd.map .str)]), some (.tup ((0 :: ups (p.1.length - 1)).map .int)), x10, x11, some (dC (p.1 ++ [Ins.ret])), x13])
    (mc := eVar 12) (mp := eVar 9) (md := eVar 8) h hf (fun _ => rfl) (fun _ => rfl) (fun _ => rfl) rfl
  refine ⟨T, some (.lst [.tup ((toRw p).pl.map .int), .tup ((toRw p).wd.map .str)]), some (.tup ((0 :: ups (p.1.length - 1)).map .int)), some (dC (p.1 ++ [Ins.ret])), ?_⟩
  rw [seq_nx s1]
  have s2 := due8 p [some s, some (.loc 1), x2, x3, x4, x5, some (.lst (p.1.map dI)), some (.str p.2), x8, some (.tup ((0 :: ups (p.1.length - 1)).map .int)), x10, x11, some (dC (p.1 ++ [Ins.ret])), x13] S rfl rfl
  have s3 : sAsg (eIf (asB (eOp gEq (eVar 7) (eC (.str "")))) (eLst (eCons (eTup (eCons (eCallB gLen (eCons (eVar 6) (eNil))) (eNil))) (eCons (eTup (eNil)) (eNil)))) (eLst (eCons (eTup (eNil)) (eCons (eTup (eCons (eVar 7) (eNil))) (eNil))))) (gVar 8) [some s, some (.loc 1), x2, x3, x4, x5, some (.lst (p.1.map dI)), some (.str p.2), x8, some (.tup ((0 :: ups (p.1.length - 1)).map .int)), x10, x11, some (dC (p.1 ++ [Ins.ret])), x13] S =
      .nx [some s, some (.loc 1), x2, x3, x4, x5, some (.lst (p.1.map dI)), some (.str p.2), some (.lst [.tup ((toRw p).pl.map .int), .tup ((toRw p).wd.map .str)]), some (.tup ((0 :: ups (p.1.length - 1)).map .int)), x10, x11, some (dC (p.1 ++ [Ins.ret])), x13] S := by
    generalize (eIf (asB (eOp gEq (eVar 7) (eC (.str "")))) (eLst (eCons (eTup (eCons (eCallB gLen (eCons (eVar 6) (eNil))) (eNil))) (eCons (eTup (eNil)) (eNil)))) (eLst (eCons (eTup (eNil)) (eCons (eTup (eCons (eVar 7) (eNil))) (eNil))))) = z at s2 ⊢
    simp only [sAsg, sBind, s2, gVar, onlyN, List.set_cons_succ, List.set_cons_zero]
  rw [seq_nx s3]
  simp only [sIf, sBind, ht, Bool.false_eq_true, if_false]
theorem end8 {r : Rw} (h : RwOk r) (hf : RwFit r) {s : D} {x2 x3 x4 x5 x7 x8 x12 x13 : Option D} {S : Sto} :
    ∃ T, l_q_law_1_4 [some s, some (.loc 1), x2, x3, x4, x5, some (.lst (r.c.map dI)), x7, x8, some (.tup ((0 :: r.l).map .int)), some (.tup (r.pl.map .int)), some (.tup (r.wd.map .str)), x12, x13] S =
      .nx [some s, some (.loc 1), x2, x3, x4, x5, some (.lst (r.c.map dI)), x7, x8, some (.tup ((0 :: r.l).map .int)), some (.tup (r.pl.map .int)), some (.tup (r.wd.map .str)), x12, x13] (S ++ T) := by
  obtain ⟨T, ht⟩ := ne_both (S := S) (e := [some s, some (.loc 1), x2, x3, x4, x5, some (.lst (r.c.map dI)), x7, x8, some (.tup ((0 :: r.l).map .int)), some (.tup (r.pl.map .int)), some (.tup (r.wd.map .str)), x12, x13])
    (mc := eCallB gTuple (eCons (eVar 6) (eNil))) (mp := eVar 9) (md := eLst (eCons (eVar 10) (eCons (eVar 11) (eNil)))) h hf (fun _ => rfl) (fun _ => rfl) (fun _ => rfl) rfl
  refine ⟨T, ?_⟩
  unfold l_q_law_1_4
  simp only [sIf, sBind, ht, Bool.false_eq_true, if_false]
theorem turn8 {s : D} {e : Sh.Env} {S rest : Sto} {at_ : Int} (he : E8 s e) (h : LS at_ rest S) (a0 : 0 ≤ at_) (a1 : at_ < 999990) : ∃ e' S' rest', l_q_law_1_5 e S = .nx e' S' ∧ E8 s e' ∧ LS (at_ + 3) rest' S' := by
  obtain ⟨x2, x3, x4, x5, x6, x7, x8, x9, x10, x11, x12, x13, rfl⟩ := he
  obtain ⟨one, S1, h1, e1⟩ := h.reg a0 (by omega)
  obtain ⟨r, S2, r0, r1, h2, e2⟩ := h1.draw (many := 62) (by omega) (by omega) (by decide) (by decide)
  obtain ⟨two, S3, hne, h3, e3⟩ := h2.other (by omega) (by omega) one
  have hlc : eLc [13] (eSrc (eC (.str "pqrsxy"))) (bVar 13) (t_q_law_1_1) (e_q_law_1_2) [some s, some (.loc 1), x2, x3, some (.str one.n), some (.int (1 + r)), x6, x7, x8, x9, x10, x11, x12, x13] S2 = .ok (.lst ((others one).map fun r => .str r.n)) S2 := by
    cases one <;> rfl
  unfold l_q_law_1_5
  have s1 : sAsg (eTup (eCons (eCall f_p_law_of (eCons (eVar 1) (eCons (eC (.str "pqrsxy")) (eNil)))) (eCons (eOp gAdd (eC (.int 1)) (eCall f_p_law_draw (eCons (eVar 1) (eCons (eC (.int 62)) (eNil))))) (eNil)))) (gB (bTup 2 (bMore (bVar 4) (bMore (bVar 5) (bNone))))) [some s, some (.loc 1), x2, x3, x4, x5, x6, x7, x8, x9, x10, x11, x12, x13] S = .nx [some s, some (.loc 1), x2, x3, some (.str one.n), some (.int (1 + r)), x6, x7, x8, x9, x10, x11, x12, x13] S2 := by
    simp (maxSteps := 10000000) (disch := first | omega | decide) only [fnM, startE, finR, List.length_cons, List.length_nil, List.map_cons, List.map_nil, if_true, if_false, sSeq, sBind, sAsg, sRet, sRetN, sNil, sIf, sExpr, sPar, bindE, eOp, eVar, eC, eCallB, eCall, eCons, eNil, eTup, eLst, eIf, vAnd, vOr, vNot, bAnd, bOr, bNot, asB, liftO, gVar, onlyN, List.replicate, List.append_nil, List.cons_append, List.nil_append, List.getElem?_cons_zero, List.getElem?_cons_succ, List.set_cons_zero, List.set_cons_succ, Nat.reduceAdd, Nat.reduceSub, Nat.reduceLeDiff, Bool.false_eq_true, Bool.not_true, Bool.not_false, reduceIte, Nat.reduceEqDiff, d_int, d_str, d_bl, d_non, d_tup, d_ftp, d_lst, d_fls, d_dic, d_ty, d_locL, d_locD, add_int, sub_int, mul_int, mod_int, div_int, lt_int, le_int, gt_int, ge_int, int_int, len_lst, len_tup, len_fls, idx_lst, idx_tup, idx_dicS, idx_dicI, eFld, eMeth, sFldM, gFld, gSubM, eGet2, ePop2, eChain, i_at, eq_self, l_num, l_base, l_sp, l_held, l_words, p_sp, f_len5, l_m0, l_m1, l_m2, l_m3, l_m4, l_m5, l_m6, l_m7, l_m8, l_m9, m_h, m_w, m_i, m_seth, m_setw, m_seti, look_h, look_w, d_dV, dm_h, dm_w, put_w, put_h, drop_w, eq_any, eq_out, dicOf, locDic, toKey, v_STACK, v_GOES_ON, v_OFF_STACK, v_WILD, v_MOST_WORDS, v_RETURN, v_END, Nat.reduceLT, eqs, ine, atI2_0, atI2_1, atI3_0, atI3_1, atI3_2, atI4_0, atI4_1, atI4_2, atI4_3, atI1_0, decide_true, decide_false, decide_eq_false, gEqT, in_str, isS, strIn, Bool.or_false, Bool.false_or, Bool.true_or, Bool.or_true, Bool.and_true, Bool.true_and, Bool.and_false, Bool.false_and, List.all_cons, List.all_nil, nes, is_non, is_int, eUn, neg_int, gB, bTup, bMore, bVar, bNone, Option.bind_some, st_h, st_hA, gd_any, d_out, d_any, e1, e2]
  rw [seq_nx s1]
  have s2 : sAsg (eCall f_p_law_of (eCons (eVar 1) (eCons (eLc [13] (eSrc (eC (.str "pqrsxy"))) (bVar 13) (t_q_law_1_1) (e_q_law_1_2)) (eNil)))) (gVar 3) [some s, some (.loc 1), x2, x3, some (.str one.n), some (.int (1 + r)), x6, x7, x8, x9, x10, x11, x12, x13] S2 = .nx [some s, some (.loc 1), x2, some (.str two.n), some (.str one.n), some (.int (1 + r)), x6, x7, x8, x9, x10, x11, x12, x13] S3 := by
    generalize eLc [13] (eSrc (eC (.str "pqrsxy"))) (bVar 13) (t_q_law_1_1) (e_q_law_1_2) = z at hlc ⊢
    simp (maxSteps := 10000000) (disch := omega) only [fnM, startE, finR, List.length_cons, List.length_nil, List.map_cons, List.map_nil, if_true, if_false, sSeq, sBind, sAsg, sRet, sRetN, sNil, sIf, sExpr, sPar, bindE, eOp, eVar, eC, eCallB, eCall, eCons, eNil, eTup, eLst, eIf, vAnd, vOr, vNot, bAnd, bOr, bNot, asB, liftO, gVar, onlyN, List.replicate, List.append_nil, List.cons_append, List.nil_append, List.getElem?_cons_zero, List.getElem?_cons_succ, List.set_cons_zero, List.set_cons_succ, Nat.reduceAdd, Nat.reduceSub, Nat.reduceLeDiff, Bool.false_eq_true, Bool.not_true, Bool.not_false, reduceIte, Nat.reduceEqDiff, d_int, d_str, d_bl, d_non, d_tup, d_ftp, d_lst, d_fls, d_dic, d_ty, d_locL, d_locD, add_int, sub_int, mul_int, mod_int, div_int, lt_int, le_int, gt_int, ge_int, int_int, len_lst, len_tup, len_fls, idx_lst, idx_tup, idx_dicS, idx_dicI, hlc, e3]
  rw [seq_nx s2]
  have e4 := rws_eq one two (1 + r) S3
  have hsrc : eSrc (eCall f_p_law_rows_1 (eCons (eVar 4) (eCons (eVar 3) (eCons (eVar 5) (eNil))))) [some s, some (.loc 1), x2, some (.str two.n), some (.str one.n), some (.int (1 + r)), x6, x7, x8, x9, x10, x11, x12, x13] S3 = .ok (.st ((rws one two (1 + r)).map dRw1)) S3 := by
    simp (maxSteps := 10000000) (disch := omega) only [fnM, startE, finR, List.length_cons, List.length_nil, List.map_cons, List.map_nil, if_true, if_false, sSeq, sBind, sAsg, sRet, sRetN, sNil, sIf, sExpr, sPar, bindE, eOp, eVar, eC, eCallB, eCall, eCons, eNil, eTup, eLst, eIf, vAnd, vOr, vNot, bAnd, bOr, bNot, asB, liftO, gVar, onlyN, List.replicate, List.append_nil, List.cons_append, List.nil_append, List.getElem?_cons_zero, List.getElem?_cons_succ, List.set_cons_zero, List.set_cons_succ, Nat.reduceAdd, Nat.reduceSub, Nat.reduceLeDiff, Bool.false_eq_true, Bool.not_true, Bool.not_false, reduceIte, Nat.reduceEqDiff, d_int, d_str, d_bl, d_non, d_tup, d_ftp, d_lst, d_fls, d_dic, d_ty, d_locL, d_locD, add_int, sub_int, mul_int, mod_int, div_int, lt_int, le_int, gt_int, ge_int, int_int, len_lst, len_tup, len_fls, idx_lst, idx_tup, idx_dicS, idx_dicI, eSrc, e4]
  have hrow := rws_ok (n := 1 + r) hne (by omega) (by omega)
  have hfit := rws_fit (one := one) (two := two) (n := 1 + r)
  obtain ⟨e5, S5, hl5, _, ⟨y6, y7, y8, y9, y12, rfl⟩, T, rfl⟩ := sLoop_ind (g := gB (bTup 2 (bMore (bVar 6) (bMore (bVar 7) (bNone))))) (body := l_q_law_1_3)
    (fun ds e S => (∀ d ∈ ds, ∃ p ∈ rws one two (1 + r), d = dRw1 p) ∧ (∃ x6 x7 x8 x9 x12, e = [some s, some (.loc 1), x2, some (.str two.n), some (.str one.n), some (.int (1 + r)), x6, x7, x8, x9, x10, x11, x12, x13]) ∧ ∃ T, S = S3 ++ T)
    ((rws one two (1 + r)).map dRw1) [some s, some (.loc 1), x2, some (.str two.n), some (.str one.n), some (.int (1 + r)), x6, x7, x8, x9, x10, x11, x12, x13] S3
    ⟨fun d hd => by
      obtain ⟨p, hp, rfl⟩ := List.mem_map.mp hd
      exact ⟨p, hp, rfl⟩, ⟨_, _, _, _, _, rfl⟩, [], by simp⟩
    (fun d ds e S ⟨hr, ⟨y6, y7, y8, y9, y12, hy⟩, T, hS⟩ => by
      obtain ⟨p, hp, rfl⟩ := hr d List.mem_cons_self
      subst hy
      obtain ⟨q1, q2, q3⟩ := hrow p hp
      obtain ⟨T2, z8, z9, z12, hb⟩ := row8 q1 (hfit p hp) q2 q3 (s := s) (x2 := x2) (x3 := some (.str two.n)) (x4 := some (.str one.n)) (x5 := some (.int (1 + r))) (x8 := y8) (x9 := y9) (x10 := x10) (x11 := x11) (x12 := y12) (x13 := x13) (S := S)
      exact ⟨_, S, _, S ++ T2, rfl, .inl hb, fun d hd => hr d (List.mem_cons_of_mem _ hd), ⟨_, _, _, _, _, rfl⟩, T ++ T2, by rw [hS, List.append_assoc]⟩)
  rw [seq_nx ((sFor_st hsrc).trans hl5)]
  obtain ⟨T5, e5⟩ := ends_eq one (1 + r) (S3 ++ T)
  have hsrc2 : eSrc (eCall f_p_law_ends (eCons (eVar 4) (eCons (eVar 5) (eNil)))) [some s, some (.loc 1), x2, some (.str two.n), some (.str one.n), some (.int (1 + r)), y6, y7, y8, y9, x10, x11, y12, x13] (S3 ++ T) = .ok (.st ((ends one (1 + r)).map dRw)) (S3 ++ T ++ T5) := by
    simp (maxSteps := 10000000) (disch := omega) only [fnM, startE, finR, List.length_cons, List.length_nil, List.map_cons, List.map_nil, if_true, if_false, sSeq, sBind, sAsg, sRet, sRetN, sNil, sIf, sExpr, sPar, bindE, eOp, eVar, eC, eCallB, eCall, eCons, eNil, eTup, eLst, eIf, vAnd, vOr, vNot, bAnd, bOr, bNot, asB, liftO, gVar, onlyN, List.replicate, List.append_nil, List.cons_append, List.nil_append, List.getElem?_cons_zero, List.getElem?_cons_succ, List.set_cons_zero, List.set_cons_succ, Nat.reduceAdd, Nat.reduceSub, Nat.reduceLeDiff, Bool.false_eq_true, Bool.not_true, Bool.not_false, reduceIte, Nat.reduceEqDiff, d_int, d_str, d_bl, d_non, d_tup, d_ftp, d_lst, d_fls, d_dic, d_ty, d_locL, d_locD, add_int, sub_int, mul_int, mod_int, div_int, lt_int, le_int, gt_int, ge_int, int_int, len_lst, len_tup, len_fls, idx_lst, idx_tup, idx_dicS, idx_dicI, eSrc, e5]
  have hend := ends_ok (one := one) (n := 1 + r) (by omega) (by omega)
  have hefit := ends_fit (one := one) (n := 1 + r)
  obtain ⟨e7, S7, hl7, _, ⟨z6, z7, z8, z9, z10, z11, z12, rfl⟩, T7, rfl⟩ := sLoop_ind (g := gB (bTup 4 (bMore (bVar 6) (bMore (bVar 9) (bMore (bVar 10) (bMore (bVar 11) (bNone))))))) (body := l_q_law_1_4)
    (fun ds e S => (∀ d ∈ ds, ∃ p ∈ ends one (1 + r), d = dRw p) ∧ (∃ x6 x7 x8 x9 x10 x11 x12, e = [some s, some (.loc 1), x2, some (.str two.n), some (.str one.n), some (.int (1 + r)), x6, x7, x8, x9, x10, x11, x12, x13]) ∧ ∃ T', S = S3 ++ T ++ T5 ++ T')
    ((ends one (1 + r)).map dRw) [some s, some (.loc 1), x2, some (.str two.n), some (.str one.n), some (.int (1 + r)), y6, y7, y8, y9, x10, x11, y12, x13] (S3 ++ T ++ T5)
    ⟨fun d hd => by
      obtain ⟨p, hp, rfl⟩ := List.mem_map.mp hd
      exact ⟨p, hp, rfl⟩, ⟨_, _, _, _, _, _, _, rfl⟩, [], by simp⟩
    (fun d ds e S ⟨hr, ⟨y6, y7, y8, y9, y10, y11, y12, hy⟩, T', hS⟩ => by
      obtain ⟨p, hp, rfl⟩ := hr d List.mem_cons_self
      subst hy
      obtain ⟨T2, hb⟩ := end8 (hend p hp) (hefit p hp) (s := s) (x2 := x2) (x3 := some (.str two.n)) (x4 := some (.str one.n)) (x5 := some (.int (1 + r))) (x7 := y7) (x8 := y8) (x12 := y12) (x13 := x13) (S := S)
      exact ⟨_, S, _, S ++ T2, rfl, .inl hb, fun d hd => hr d (List.mem_cons_of_mem _ hd), ⟨_, _, _, _, _, _, _, rfl⟩, T' ++ T2, by rw [hS]; simp only [List.append_assoc]⟩)
  refine ⟨_, _, rest ++ (T ++ (T5 ++ T7)), (sFor_st hsrc2).trans hl7, ⟨_, _, _, _, _, _, _, _, _, _, _, _, rfl⟩, ?_⟩
  · have := h3.more (T ++ (T5 ++ T7))
    rw [show at_ + 3 = at_ + 1 + 1 + 1 by omega]
    simpa only [List.append_assoc] using this
theorem turns8 {s : D} : ∀ (ds : List D) (e : Sh.Env) (S rest : Sto) (at_ : Int), E8 s e → LS at_ rest S → 0 ≤ at_ → at_ + 3 * ds.length < 999990 → ∃ e' S' rest' a', sLoop (gB (bVar 2)) l_q_law_1_5 ds e S = .nx e' S' ∧ E8 s e' ∧ LS a' rest' S'
  | [], e, S, rest, at_, he, h, _, _ => ⟨e, S, rest, at_, rfl, he, h⟩
  | d :: ds, e, S, rest, at_, he, h, a0, a1 => by
    have he2 : E8 s (e.set 2 (some d)) := by
      obtain ⟨x2, x3, x4, x5, x6, x7, x8, x9, x10, x11, x12, x13, rfl⟩ := he
      exact ⟨_, _, _, _, _, _, _, _, _, _, _, _, rfl⟩
    simp only [List.length_cons] at a1
    obtain ⟨e1, S1, rest1, q, he1, h1⟩ := turn8 he2 h a0 (by omega)
    obtain ⟨e2, S2, rest2, a2, q2, he3, h2⟩ := turns8 ds e1 S1 rest1 (at_ + 3) he1 h1 (by omega) (by omega)
    refine ⟨e2, S2, rest2, a2, ?_, he3, h2⟩
    simp only [sLoop, gB, bVar, q, q2]
theorem lawful08 (ns : List Int) (hn : ns.length ≤ 63) : ∃ S', f_q_law_1 [.fls (ns.map .int)] [] = .ok (.bl true) S' := by
  obtain ⟨S0, e0, h0'⟩ := begin_eq ns hn
  have hmin : ∃ k : Nat, k ≤ 5 ∧ gMin [.int 3, .int (ns.length : Int)] = some (.int ((k : Int) - 2)) ∧ 2 ≤ k := by
    by_cases q : (ns.length : Int) < 3
    · exact ⟨ns.length + 2, by omega, by simp only [gMin, q, if_true]; congr 2; omega, by omega⟩
    · exact ⟨5, by omega, by simp only [gMin, q, if_false]; rfl, by omega⟩
  obtain ⟨k, hk, hm, hk2⟩ := hmin
  have he : E8 (.fls (ns.map .int)) [some (.fls (ns.map .int)), some (.loc 1), none, none, none, none, none, none, none, none, none, none, none, none] := ⟨_, _, _, _, _, _, _, _, _, _, _, _, rfl⟩
  have hlen : (rngD 0 k).length = k := by simp [rngD]
  obtain ⟨e1, S1, rest1, a1, q1, he1, h1⟩ := turns8 (rngD 0 k) _ S0 [] 0 he h0' (by decide) (by rw [hlen]; omega)
  have hsrc : eRng rng1 (eCons (eOp gAdd (eC (.int 2)) (eCallB gMin (eCons (eC (.int 3)) (eCons (eCallB gLen (eCons (eVar 0) (eNil))) (eNil))))) (eNil)) [some (.fls (ns.map .int)), some (.loc 1), none, none, none, none, none, none, none, none, none, none, none, none] S0 = .ok (.st (rngD 0 k)) S0 := by
    refine eRng_of (ds := [.int (2 + ((k : Int) - 2))]) ?_ ?_
    · simp (maxSteps := 10000000) (disch := omega) only [fnM, startE, finR, List.length_cons, List.length_nil, List.map_cons, List.map_nil, if_true, if_false, sSeq, sBind, sAsg, sRet, sRetN, sNil, sIf, sExpr, sPar, bindE, eOp, eVar, eC, eCallB, eCall, eCons, eNil, eTup, eLst, eIf, vAnd, vOr, vNot, bAnd, bOr, bNot, asB, liftO, gVar, onlyN, List.replicate, List.append_nil, List.cons_append, List.nil_append, List.getElem?_cons_zero, List.getElem?_cons_succ, List.set_cons_zero, List.set_cons_succ, Nat.reduceAdd, Nat.reduceSub, Nat.reduceLeDiff, Bool.false_eq_true, Bool.not_true, Bool.not_false, reduceIte, Nat.reduceEqDiff, d_int, d_str, d_bl, d_non, d_tup, d_ftp, d_lst, d_fls, d_dic, d_ty, d_locL, d_locD, add_int, sub_int, mul_int, mod_int, div_int, lt_int, le_int, gt_int, ge_int, int_int, len_lst, len_tup, len_fls, idx_lst, idx_tup, idx_dicS, idx_dicI, List.length_map, hm]
    · rw [rng1_of (by omega), show (2 + ((k : Int) - 2)).toNat = k by omega]
  refine ⟨S1, ?_⟩
  show finR (b_q_law_1 [some (.fls (ns.map .int)), none, none, none, none, none, none, none, none, none, none, none, none, none] []) = _
  unfold b_q_law_1
  have s1 : sAsg (eCall f_p_law_begin (eCons (eVar 0) (eNil))) (gVar 1) [some (.fls (ns.map .int)), none, none, none, none, none, none, none, none, none, none, none, none, none] [] = .nx [some (.fls (ns.map .int)), some (.loc 1), none, none, none, none, none, none, none, none, none, none, none, none] S0 := by
    simp (maxSteps := 10000000) (disch := omega) only [fnM, startE, finR, List.length_cons, List.length_nil, List.map_cons, List.map_nil, if_true, if_false, sSeq, sBind, sAsg, sRet, sRetN, sNil, sIf, sExpr, sPar, bindE, eOp, eVar, eC, eCallB, eCall, eCons, eNil, eTup, eLst, eIf, vAnd, vOr, vNot, bAnd, bOr, bNot, asB, liftO, gVar, onlyN, List.replicate, List.append_nil, List.cons_append, List.nil_append, List.getElem?_cons_zero, List.getElem?_cons_succ, List.set_cons_zero, List.set_cons_succ, Nat.reduceAdd, Nat.reduceSub, Nat.reduceLeDiff, Bool.false_eq_true, Bool.not_true, Bool.not_false, reduceIte, Nat.reduceEqDiff, d_int, d_str, d_bl, d_non, d_tup, d_ftp, d_lst, d_fls, d_dic, d_ty, d_locL, d_locD, add_int, sub_int, mul_int, mod_int, div_int, lt_int, le_int, gt_int, ge_int, int_int, len_lst, len_tup, len_fls, idx_lst, idx_tup, idx_dicS, idx_dicI, e0]
  rw [seq_nx s1, seq_nx ((sFor_st hsrc).trans q1)]
end U
namespace K08
open Sh
theorem lawful : ∀ ns : List Int, ns.length ≤ 63 → ∃ S', U.f_q_law_1 [.fls (ns.map .int)] [] = .ok (.bl true) S' := U.lawful08
end K08
set_option Elab.async false
set_option linter.all false
set_option maxRecDepth 100000
set_option maxHeartbeats 4000000
namespace K08
open PySem PySem.Spec PyProof.Rows L2 Sh U
abbrev RR_ : PySem.W.OpenRow := PySem.W.OpenLaw.row PySem.Challenge.rw_unwindrows_k08_breaks_by_hand
abbrev hkS : PySem.W.Hook := hookS 5 fas fns tbs exs
def obS (s : PySem.W.SharedT) : AlS := obsS 5 fas fns tbs exs (HandSHeadRun.getT s)
theorem obS_eq (s : PySem.W.SharedT) : obS s = hkS.obs s.abs := obsS_eq (HandSHeadRun.getT_eq s)
def lo0 : List Str := ["UnwindError", "BadCode", "BadPath", "REGISTERS", "STACK", "MOST_CODE", "MOST_WORDS", "MOST_LETTERS", "LETTERS", "FORMS", "form_of", "is_integer", "is_register", "is_basis", "is_name", "part_fits", "is_instruction", "need_code", "ANY", "OUT", "SCRATCH", "GOES_ON", "OFF_STACK", "WILD", "RETURN", "END", "Machine", "first_values", "first_stop", "next_places"]
def lo1 : List Str := ["successors", "stop_at", "run", "following", "breaking", "_law_mixed", "_law_begin", "_law_draw", "_law_of", "_law_rows", "_law_ends"]
def los : List Str := lo0 ++ lo1
set_option maxHeartbeats 0 in
theorem runS (w : World) : HandSHeadRun.RunEq RR_ (PySem.W.view RR_.prog [45]) hkS obS 2600 los w := by
  refine PySem.W.byRow2 "special-get-raises" (P := fun w => HandSHeadRun.RunEq RR_ (PySem.W.view RR_.prog [45]) hkS obS 2600 los w) (fun w os => ?_) (fun w os => ?_) w
  · kernel_rfl
  · kernel_rfl

end K08
open PySem PySem.W PySem.Calls PyProof.Rows
set_option maxHeartbeats 0 in
theorem PySem.Challenge.cw_unwindrows_k08_breaks_by_hand_holds : PySem.Challenge.rw_unwindrows_k08_breaks_by_hand.Holds := by
  w_on; o_law
  refine HandSHeadRun.head_any (r := OpenLaw.row PySem.Challenge.rw_unwindrows_k08_breaks_by_hand) (q := view (OpenLaw.row PySem.Challenge.rw_unwindrows_k08_breaks_by_hand).prog [45]) (H := K08.hkS) (ob := K08.obS) (M := 2600) (loose := K08.los) (d := HandSHeadRun.topDef (OpenLaw.row PySem.Challenge.rw_unwindrows_k08_breaks_by_hand).prog 45) (kwd := []) K08.obS_eq
    (by kernel_rfl) (fun s => by kernel_rfl) K08.runS (by kernel_rfl) (by kernel_rfl) (by kernel_rfl) (by rfl) (by first | assumption | decide +kernel) (by decide +kernel) ⟨rfl, rfl, rfl, rfl, rfl, by decide +kernel⟩ ?hw ?hc
  case hw => w_witness2
  case hc =>
    refine Sh.walkS (l := PySem.Challenge.rw_unwindrows_k08_breaks_by_hand) (n := 63) (lv := 9) (x := "script") (fn := U.f_q_law_1) rfl (by decide) (by kernel_rfl) ⟨rfl, by decide, by decide⟩ ?F K08.lawful
    intro w mg fa h Y G hmg0
    obtain ⟨K, KX, c, e⟩ := Y
    have hmg : mg ("law" : PySem.Str) = some (.ref fa) := by
      have e : (HandSHeadRun.topDef (OpenLaw.row PySem.Challenge.rw_unwindrows_k08_breaks_by_hand).prog 45).name = ("law" : PySem.Str) := by kernel_rfl
      rw [← e]
      exact hmg0
    obtain ⟨FD, T⟩ := K08.tx_of KX G c e
    have ef := hmg.symm.trans T.m_q_law_1
    cases ef
    refine ⟨K08.kk K, FD 33, KX, fun s u => ?_, fun base _ _ => K08.ok_all T⟩
    exact L2.Fun.bindsA1 T.F_q_law_1 (fun _ _ _ _ _ _ _ => rfl) s u
